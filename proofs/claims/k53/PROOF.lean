import PyProof.Rows.All
import Wide.All
import OpenK.AllK
import Wide.FinOn
import HandS.ForMost
import HandS.ExcOwn
import HandS.Style
import HandS.WordsExc
import HandS.Wide
import HandS.Deep
import HandS.TupAny
import HandS.IsInst
import HandS.Rev
import HandS.Zip
import HandS.More
import HandS.ExcIs
import HandS.EndBits
import PySem.Challenge.RW_polyward_k53_whole_floor_sums_and_near_r
set_option Elab.async false
set_option linter.all false
set_option autoImplicit false
set_option maxRecDepth 100000
/-! DL1: data, how it is represented, states by slots, results, the lifts. -/
namespace DL
open PySem PySem.Spec PyProof.Rows L2
abbrev St := L2.St

/-- data -/
inductive D where
  | non | bl (b : Bool) | int (i : Int) | str (s : Str) | sym (n : Nat) | ref (a : Addr)
  | tup (ds : List D) | lst (ds : List D) | rol (ds : List D) | dct (kvs : List (D × D))

/-- symbols' addresses (defs and classes as values) -/
abbrev Gm := Nat → Addr

/-- a key of a dict as data -/
def kD : Key → D
  | .inl i => .int i
  | .inr x => .str x

mutual
inductive Rep (g : Gm) (K : PySem.W.Frag) (S : Hp) : V → D → Prop
  | non : Rep g K S .non .non
  | bl (b : Bool) : Rep g K S (.bl b) (.bl b)
  | int (i : Int) : Rep g K S (.int i) (.int i)
  | str (x : Str) : Rep g K S (.str x) (.str x)
  | sym (n : Nat) : Rep g K S (.ref (g n)) (.sym n)
  | ref (a : Addr) : Rep g K S (.ref a) (.ref a)
  | tup {a : Addr} {vs : List V} {ds : List D} : SqT K S a vs → RepL g K S vs ds → Rep g K S (.ref a) (.tup ds)
  | lst {a : Addr} {vs : List V} {ds : List D} : S a = some (.lst vs) → RepL g K S vs ds → Rep g K S (.ref a) (.lst ds)
  | rol {a : Addr} {vs : List V} {ds : List D} : SqL K S a vs → RepL g K S vs ds → Rep g K S (.ref a) (.rol ds)
  | dK {a : Addr} {kvs : List (Key × V)} {ds : List D} : S a = some (.dK kvs) → RepL g K S (kvs.map (·.2)) ds → Rep g K S (.ref a) (.dct ((kvs.map (kD ·.1)).zip ds))
  | dT {a : Addr} {kvs : List (List Key × V)} {ds : List D} : S a = some (.dT kvs) → RepL g K S (kvs.map (·.2)) ds → Rep g K S (.ref a) (.dct ((kvs.map fun p => D.tup (p.1.map kD)).zip ds))
inductive RepL (g : Gm) (K : PySem.W.Frag) (S : Hp) : List V → List D → Prop
  | nil : RepL g K S [] []
  | cons {v : V} {vs : List V} {d : D} {ds : List D} : Rep g K S v d → RepL g K S vs ds → RepL g K S (v :: vs) (d :: ds)
end

section
variable {g : Gm} {K : PySem.W.Frag} {S S' : Hp}
theorem Same.seqT {H H' : Hp} {a : Addr} {xs : List V} (e : Same H H') (h : SqT K H a xs) : SqT K H' a xs := by
  rcases h with (h | ⟨o, h⟩) | h
  · exact .inl (.inl (e _ _ h))
  · exact .inl (.inr ⟨o, e _ _ h⟩)
  · exact .inr h
theorem Same.rd {H H' : Hp} {a : Addr} {u : HO} (e : Same H H') (h : Rd H a u) : Rd H' a u := by
  rcases h with h | ⟨o, h⟩
  · exact .inl (e _ _ h)
  · exact .inr ⟨o, e _ _ h⟩
mutual
theorem Rep.mono (e : Same S S') : ∀ {v : V} {d : D}, Rep g K S v d → Rep g K S' v d
  | _, _, .non => .non
  | _, _, .bl b => .bl b
  | _, _, .int b => .int b
  | _, _, .str b => .str b
  | _, _, .sym b => .sym b
  | _, _, .ref b => .ref b
  | _, _, .tup h r => .tup (Same.seqT e h) (RepL.mono e r)
  | _, _, .lst h r => .lst (e _ _ h) (RepL.mono e r)
  | _, _, .rol h r => .rol (e.seq h) (RepL.mono e r)
  | _, _, .dK h r => .dK (e _ _ h) (RepL.mono e r)
  | _, _, .dT h r => .dT (e _ _ h) (RepL.mono e r)
theorem RepL.mono (e : Same S S') : ∀ {v : List V} {d : List D}, RepL g K S v d → RepL g K S' v d
  | _, _, .nil => .nil
  | _, _, .cons h r => .cons (Rep.mono e h) (RepL.mono e r)
end
theorem RepL.length : ∀ {vs : List V} {ds : List D}, RepL g K S vs ds → vs.length = ds.length
  | _, _, .nil => rfl
  | _, _, .cons _ r => by simp [RepL.length r]
theorem RepL.get : ∀ {vs : List V} {ds : List D} {i : Nat} {d : D}, RepL g K S vs ds → ds[i]? = some d → ∃ v, vs[i]? = some v ∧ Rep g K S v d
  | _, _, _, _, .nil, e => by simp at e
  | _, _, 0, _, .cons r _, e => by simp at e; subst e; exact ⟨_, rfl, r⟩
  | _, _, i + 1, d, .cons _ t, e => by
    obtain ⟨u, h1, h2⟩ := RepL.get (i := i) (d := d) t (by simpa using e)
    exact ⟨u, by simpa using h1, h2⟩
theorem RepL.getV : ∀ {vs : List V} {ds : List D} {i : Nat} {v : V}, RepL g K S vs ds → vs[i]? = some v → ∃ d, ds[i]? = some d ∧ Rep g K S v d
  | _, _, _, _, .nil, e => by simp at e
  | _, _, 0, _, .cons r _, e => by simp at e; subst e; exact ⟨_, rfl, r⟩
  | _, _, i + 1, d, .cons _ t, e => by
    obtain ⟨u, h1, h2⟩ := RepL.getV (i := i) (v := d) t (by simpa using e)
    exact ⟨u, by simpa using h1, h2⟩
theorem RepL.append : ∀ {vs ws : List V} {ds es : List D}, RepL g K S vs ds → RepL g K S ws es → RepL g K S (vs ++ ws) (ds ++ es)
  | _, _, _, _, .nil, s => s
  | _, _, _, _, .cons r t, s => .cons r (RepL.append t s)
theorem RepL.take : ∀ {vs : List V} {ds : List D} (n : Nat), RepL g K S vs ds → RepL g K S (vs.take n) (ds.take n)
  | _, _, 0, _ => .nil
  | _, _, _ + 1, .nil => .nil
  | _, _, n + 1, .cons r t => .cons r (RepL.take n t)
theorem RepL.drop : ∀ {vs : List V} {ds : List D} (n : Nat), RepL g K S vs ds → RepL g K S (vs.drop n) (ds.drop n)
  | _, _, 0, r => r
  | _, _, _ + 1, .nil => .nil
  | _, _, n + 1, .cons _ t => RepL.drop n t
theorem RepL.reverse {vs : List V} {ds : List D} (r : RepL g K S vs ds) : RepL g K S vs.reverse ds.reverse := by
  induction vs generalizing ds with
  | nil => cases r; exact .nil
  | cons v vs ih => cases r with
    | cons r t => rw [List.reverse_cons, List.reverse_cons]; exact RepL.append (ih t) (.cons r .nil)
theorem RepL.set {v : V} {d : D} (r : Rep g K S v d) : ∀ {vs : List V} {ds : List D} (i : Nat), RepL g K S vs ds → RepL g K S (vs.set i v) (ds.set i d)
  | _, _, _, .nil => .nil
  | _, _, 0, .cons _ t => .cons r t
  | _, _, i + 1, .cons q t => .cons q (RepL.set r i t)
theorem RepL.split : ∀ {vs : List V} {ds es : List D}, RepL g K S vs (ds ++ es) → ∃ v1 v2, vs = v1 ++ v2 ∧ RepL g K S v1 ds ∧ RepL g K S v2 es
  | vs, [], es, r => ⟨[], vs, rfl, .nil, r⟩
  | _, d :: ds, es, .cons r t => by
    obtain ⟨v1, v2, rfl, r1, r2⟩ := RepL.split (ds := ds) t
    exact ⟨_ :: v1, v2, rfl, .cons r r1, r2⟩
theorem RepL.ints : ∀ {vs : List V} {ns : List Int}, RepL g K S vs (ns.map D.int) → vs = ns.map V.int
  | _, [], .nil => rfl
  | _, n :: ns, .cons (.int _) t => by rw [RepL.ints t]; rfl
theorem RepL.of_ints : ∀ {ns : List Int}, RepL g K S (ns.map V.int) (ns.map D.int)
  | [] => .nil
  | n :: ns => .cons (.int n) RepL.of_ints
end

/-! ### slots -/
/-- what stands in an object that is owned -/
inductive Cn where
  | lst (ds : List D) | dct (kvs : List (D × D))
def Cn.d : Cn → D
  | .lst ds => .lst ds
  | .dct kvs => .dct kvs
inductive RepC (g : Gm) (K : PySem.W.Frag) (S : Hp) : HO → Cn → Prop
  | lst {vs : List V} {ds : List D} : RepL g K S vs ds → RepC g K S (.lst vs) (.lst ds)
  | dK {kvs : List (Key × V)} {ds : List D} : RepL g K S (kvs.map (·.2)) ds → RepC g K S (.dK kvs) (.dct ((kvs.map (kD ·.1)).zip ds))
  | dT {kvs : List (List Key × V)} {ds : List D} : RepL g K S (kvs.map (·.2)) ds → RepC g K S (.dT kvs) (.dct ((kvs.map fun p => D.tup (p.1.map kD)).zip ds))
theorem RepC.mono {g : Gm} {K : PySem.W.Frag} {S S' : Hp} (e : Same S S') {o : HO} {c : Cn} (r : RepC g K S o c) : RepC g K S' o c := by
  cases r with
  | lst r => exact .lst (r.mono e)
  | dK r => exact .dK (r.mono e)
  | dT r => exact .dT (r.mono e)
theorem RepC.rep {g : Gm} {K : PySem.W.Frag} {S : Hp} {a : Addr} {o : HO} {c : Cn} (h : S a = some o) (r : RepC g K S o c) : Rep g K S (.ref a) c.d := by
  cases r with
  | lst r => exact .lst h r
  | dK r => exact .dK h r
  | dT r => exact .dT h r

inductive SV where
  | emp | dat (d : D) | own (c : Cn)
abbrev DS := List SV

/-- the slot's object -/
def Own (σ : St) (τ : DS) (a : Addr) : Prop := ∃ (i : Nat) (c : Cn), τ[i]? = some (SV.own c) ∧ σ[i]? = some (some (.ref a))

structure Abs (g : Gm) (K : PySem.W.Frag) (σ : St) (H : Hp) (τ : DS) (S : Hp) : Prop where
  le : Same S H
  len : σ.length = τ.length
  dat : ∀ (i : Nat) (d : D), τ[i]? = some (.dat d) → ∃ v, σ[i]? = some (some v) ∧ Rep g K S v d
  own : ∀ (i : Nat) (c : Cn), τ[i]? = some (.own c) → ∃ a o, σ[i]? = some (some (.ref a)) ∧ H a = some o ∧ S a = none ∧ RepC g K S o c
  inj : ∀ (i j : Nat) (c c' : Cn), τ[i]? = some (.own c) → τ[j]? = some (.own c') → σ[i]? = σ[j]? → i = j

structure Ext (σ : St) (τ : DS) (H S : Hp) (σ' : St) (τ' : DS) (H' S' : Hp) : Prop where
  st : Same S S'
  pv : ∀ a o, H a = some o → S a = none → ¬ Own σ τ a → H' a = some o ∧ S' a = none
  ow : ∀ a, Own σ' τ' a → Own σ τ a ∨ H a = none
  al : ∀ a, H' a = none → H a = none
section
variable {g : Gm} {K : PySem.W.Frag} {σ σ' σ1 σ2 : St} {τ τ' τ1 τ2 : DS} {H H' S S' H1 S1 H2 S2 : Hp}
theorem Ext.refl : Ext σ τ H S σ τ H S := ⟨Same.refl _, fun _ _ h n _ => ⟨h, n⟩, fun _ h => .inl h, fun _ h => h⟩
theorem Ext.trans (e : Ext σ τ H S σ1 τ1 H1 S1) (f : Ext σ1 τ1 H1 S1 σ2 τ2 H2 S2) : Ext σ τ H S σ2 τ2 H2 S2 where
  st := e.st.trans f.st
  pv := fun a o h n no => by
    obtain ⟨h1, n1⟩ := e.pv a o h n no
    refine f.pv a o h1 n1 fun q => ?_
    rcases e.ow a q with q | q
    · exact no q
    · rw [h] at q; cases q
  ow := fun a q => by
    rcases f.ow a q with q | q
    · exact e.ow a q
    · exact .inr (e.al a q)
  al := fun a h => e.al a (f.al a h)
theorem Abs.sn (A : Abs g K σ H τ S) {p : Addr} (h : H p = none) : S p = none := by
  cases q : S p with
  | none => rfl
  | some o => have := A.le _ _ q; rw [h] at this; cases this
theorem Same.upd_new {H : Hp} {p : Addr} {o : HO} (h : H p = none) : Same H (upd H p o) := fun b x e => by
  rw [upd_ne (ne_of_none e h)]
  exact e
theorem Abs.own_some (A : Abs g K σ H τ S) {a : Addr} (h : Own σ τ a) : ∃ o, H a = some o := by
  obtain ⟨i, c, h1, h2⟩ := h
  obtain ⟨b, o, e, q, _⟩ := A.own i c h1
  rw [h2] at e; cases e
  exact ⟨o, q⟩
/-- a new object that will not be changed -/
theorem Abs.new (A : Abs g K σ H τ S) {p : Addr} (h : H p = none) (o : HO) : Abs g K σ (upd H p o) τ (upd S p o) where
  le := fun b x e => by
    by_cases hb : b = p
    · subst hb; rw [upd_same] at e ⊢; exact e
    · rw [upd_ne hb] at e ⊢; exact A.le _ _ e
  len := A.len
  dat := fun i d e => by
    obtain ⟨v, e1, r⟩ := A.dat i d e
    exact ⟨v, e1, r.mono (Same.upd_new (A.sn h))⟩
  own := fun i c e => by
    obtain ⟨a, o', e1, h1, n1, r⟩ := A.own i c e
    have ne : a ≠ p := ne_of_none h1 h
    exact ⟨a, o', e1, by rw [upd_ne ne]; exact h1, by rw [upd_ne ne]; exact n1, r.mono (Same.upd_new (A.sn h))⟩
  inj := A.inj
theorem Abs.ext_new (A : Abs g K σ H τ S) {p : Addr} (h : H p = none) (o : HO) : Ext σ τ H S σ τ (upd H p o) (upd S p o) where
  st := Same.upd_new (A.sn h)
  pv := fun a x e n _ => by
    have ne : a ≠ p := ne_of_none e h
    exact ⟨by rw [upd_ne ne]; exact e, by rw [upd_ne ne]; exact n⟩
  ow := fun _ h => .inl h
  al := fun a e => by
    by_cases hb : a = p
    · rw [hb]; exact h
    · rw [upd_ne hb] at e; exact e
/-- a new object of our own, not yet in a slot -/
theorem Abs.priv (A : Abs g K σ H τ S) {p : Addr} (h : H p = none) (o : HO) : Abs g K σ (upd H p o) τ S where
  le := fun b x e => by rw [upd_ne (ne_of_none (A.le _ _ e) h)]; exact A.le _ _ e
  len := A.len
  dat := A.dat
  own := fun i c e => by
    obtain ⟨a, o', e1, h1, n1, r⟩ := A.own i c e
    exact ⟨a, o', e1, by rw [upd_ne (ne_of_none h1 h)]; exact h1, n1, r⟩
  inj := A.inj
theorem Abs.ext_priv (A : Abs g K σ H τ S) {p : Addr} (h : H p = none) (o : HO) : Ext σ τ H S σ τ (upd H p o) S where
  st := Same.refl _
  pv := fun a x e n _ => ⟨by rw [upd_ne (ne_of_none e h)]; exact e, n⟩
  ow := fun _ h => .inl h
  al := fun a e => by
    by_cases hb : a = p
    · rw [hb]; exact h
    · rw [upd_ne hb] at e; exact e
/-- an object of our own will not be changed from here on -/
theorem Abs.freeze (A : Abs g K σ H τ S) {p : Addr} {o : HO} (h : H p = some o) (n : S p = none) (no : ¬ Own σ τ p) : Abs g K σ H τ (upd S p o) where
  le := fun b x e => by
    by_cases hb : b = p
    · subst hb; rw [upd_same] at e; rw [h]; exact e
    · rw [upd_ne hb] at e; exact A.le _ _ e
  len := A.len
  dat := fun i d e => by
    obtain ⟨v, e1, r⟩ := A.dat i d e
    exact ⟨v, e1, r.mono (Same.upd_new n)⟩
  own := fun i c e => by
    obtain ⟨a, o', e1, h1, n1, r⟩ := A.own i c e
    have ne : a ≠ p := fun q => no (q ▸ ⟨i, c, e, e1⟩)
    exact ⟨a, o', e1, h1, by rw [upd_ne ne]; exact n1, r.mono (Same.upd_new n)⟩
  inj := A.inj
end

/-! ### values and results -/
/-- what an expression hands on: data, a new object of our own, or the object that a slot owns -/
inductive RV where
  | dat (d : D) | fr (c : Cn) | slot (i : Nat)
inductive RepV (g : Gm) (K : PySem.W.Frag) (σ : St) (τ : DS) (H0 H S : Hp) : V → RV → Prop
  | dat {v : V} {d : D} : Rep g K S v d → RepV g K σ τ H0 H S v (.dat d)
  | fr {p : Addr} {o : HO} {c : Cn} : H0 p = none → H p = some o → S p = none → ¬ Own σ τ p → RepC g K S o c → RepV g K σ τ H0 H S (.ref p) (.fr c)
  | slot {i : Nat} {v : V} : σ[i]? = some (some v) → RepV g K σ τ H0 H S v (.slot i)
section
variable {g : Gm} {K : PySem.W.Frag} {σ σ' : St} {τ τ' τ1 τ2 : DS} {H H' S S' H0 H1 S1 H2 S2 : Hp}
theorem RepV.ext {v : V} {r : RV} (x : RepV g K σ τ H0 H S v r) (e : Ext σ τ H S σ τ' H' S') (ha : ∀ a, H a = none → H0 a = none) : RepV g K σ τ' H0 H' S' v r := by
  cases x with
  | dat r => exact .dat (r.mono e.st)
  | fr h0 h n no r =>
    obtain ⟨h1, n1⟩ := e.pv _ _ h n no
    refine .fr h0 h1 n1 (fun q => ?_) (r.mono e.st)
    rcases e.ow _ q with q | q
    · exact no q
    · rw [h] at q; cases q
  | slot h => exact .slot h
theorem RepV.older {v : V} {r : RV} (x : RepV g K σ τ H1 H S v r) (ha : ∀ a, H1 a = none → H0 a = none) : RepV g K σ τ H0 H S v r := by
  cases x with
  | dat r => exact .dat r
  | fr h0 h n no r => exact .fr (ha _ h0) h n no r
  | slot h => exact .slot h
end

inductive Res (α : Type) where
  | ok (a : α) (τ : DS) | err (c : Nat) (τ : DS) | stuck
def Res.bind {α β : Type} (r : Res α) (f : α → DS → Res β) : Res β := match r with
  | .ok a τ => f a τ
  | .err c τ => .err c τ
  | .stuck => .stuck

/-- what must hold behind a step that keeps the slots' values -/
def FinP (g : Gm) (K : PySem.W.Frag) (W : WX) {α : Type} (σ : St) (τ : DS) (H S : Hp) (r : Res α) (post : DS → α → Hp → Hp → Prop) : Prop := match r with
  | .ok a τ' => ∀ H' S', Abs g K σ H' τ' S' → Ext σ τ H S σ τ' H' S' → post τ' a H' S'
  | .err c τ' => ∀ H' S', Abs g K σ H' τ' S' → Ext σ τ H S σ τ' H' S' → W (.ref (g c)) none σ H'
  | .stuck => False
section
variable {g : Gm} {K : PySem.W.Frag} {W : WX} {α β : Type} {σ : St} {τ τ1 : DS} {H S H1 S1 : Hp}
theorem FinP.mono {r : Res α} {p q : DS → α → Hp → Hp → Prop} (h : FinP g K W σ τ H S r p) (pq : ∀ τ' a H' S', Abs g K σ H' τ' S' → Ext σ τ H S σ τ' H' S' → p τ' a H' S' → q τ' a H' S') : FinP g K W σ τ H S r q := by
  cases r with
  | ok a τ' => exact fun H' S' A e => pq _ _ _ _ A e (h H' S' A e)
  | err c τ' => exact h
  | stuck => exact h
theorem FinP.ext {r : Res α} {p : DS → α → Hp → Hp → Prop} (h : FinP g K W σ τ H S r p) (e : Ext σ τ H S σ τ1 H1 S1) : FinP g K W σ τ1 H1 S1 r p := by
  cases r with
  | ok a τ' => exact fun H' S' A f => h H' S' A (e.trans f)
  | err c τ' => exact fun H' S' A f => h H' S' A (e.trans f)
  | stuck => exact h
theorem FinP.bind {r : Res α} {f : α → DS → Res β} {p : DS → β → Hp → Hp → Prop} (h : FinP g K W σ τ H S (r.bind f) p) : FinP g K W σ τ H S r fun τ1 a H1 S1 => FinP g K W σ τ1 H1 S1 (f a τ1) p := by
  cases r with
  | ok a τ' => exact fun H' S' A e => FinP.ext (show FinP g K W σ τ H S (f a τ') p from h) e
  | err c τ' => exact h
  | stuck => exact h
theorem FinP.here {a : α} {p : DS → α → Hp → Hp → Prop} (A : Abs g K σ H τ S) (h : FinP g K W σ τ H S (.ok a τ) p) : p τ a H S := h H S A .refl
end

/-- an expression's reading by its meaning -/
def LE (g : Gm) (K : PySem.W.Frag) (W : WX) (m : DS → Res RV) : TE := fun σ H Q => ∃ τ S, Abs g K σ H τ S ∧ FinP g K W σ τ H S (m τ) fun τ' r H' S' => ∀ v, RepV g K σ τ' H H' S' v r → Q v H'
/-- a test's -/
def LT (g : Gm) (K : PySem.W.Frag) (W : WX) (m : DS → Res Bool) : TT := fun σ H Q => ∃ τ S, Abs g K σ H τ S ∧ FinP g K W σ τ H S (m τ) fun _ b H' _ => Q b H'
structure DE (X : Cx) (g : Gm) (W : WX) (e : Expr) (m : DS → Res RV) : Prop where
  pe : PE X e (LE g X.K W m)
structure DT (X : Cx) (g : Gm) (W : WX) (e : Expr) (m : DS → Res Bool) : Prop where
  pt : PT X e (LT g X.K W m)
theorem PE.imp {X : Cx} {e : Expr} {t t' : TE} (h : PE X e t) (i : ∀ σ H Q, t' σ H Q → t σ H Q) : PE X e t' := ⟨fun pins s σ H Q I q => h.run pins s σ H Q I (i σ H Q q)⟩
theorem PT.imp {X : Cx} {e : Expr} {t t' : TT} (h : PT X e t) (i : ∀ σ H Q, t' σ H Q → t σ H Q) : PT X e t' := ⟨fun pins s σ H Q I q => h.run pins s σ H Q I (i σ H Q q)⟩

section
variable {g : Gm} {K : PySem.W.Frag} {W : WX} {σ : St} {τ : DS} {H S : Hp}
/-- one part, then the rest -/
theorem LE.bind {ma : DS → Res RV} {f : RV → DS → Res RV} {Q : VK} (h : LE g K W (fun τ => (ma τ).bind f) σ H Q) :
    LE g K W ma σ H fun x H1 => ∃ τ1 S1 r, Abs g K σ H1 τ1 S1 ∧ RepV g K σ τ1 H H1 S1 x r ∧ (∀ a, H1 a = none → H a = none) ∧ FinP g K W σ τ1 H1 S1 (f r τ1) fun τ' r H' S' => ∀ v, RepV g K σ τ' H H' S' v r → Q v H' := by
  obtain ⟨τ, S, A, h⟩ := h
  refine ⟨τ, S, A, (FinP.bind h).mono fun τ1 r H1 S1 A1 e1 q v rv => ⟨τ1, S1, r, A1, rv, e1.al, q⟩⟩
theorem LE.of_fin {m : DS → Res RV} {H0 : Hp} {Q : VK} (A : Abs g K σ H τ S) (ha : ∀ a, H a = none → H0 a = none) (h : FinP g K W σ τ H S (m τ) fun τ' r H' S' => ∀ v, RepV g K σ τ' H0 H' S' v r → Q v H') : LE g K W m σ H Q :=
  ⟨τ, S, A, h.mono fun _ _ _ _ _ _ q v rv => q v (rv.older ha)⟩
end
end DL

/-! DL2: what is handed on is looked at or made fast; names, constants, operators, tests, displays. -/
namespace DL
open PySem PySem.Spec PyProof.Rows L2

/-- made fast: it will not be changed from here on -/
def force (r : RV) (τ : DS) : Res D := match r with
  | .dat d => .ok d τ
  | .fr c => .ok c.d τ
  | .slot i => match τ[i]? with
    | some (.own c) => .ok c.d (τ.set i (.dat c.d))
    | some (.dat d) => .ok d τ
    | _ => .stuck
/-- looked at -/
def peek (r : RV) (τ : DS) : Option D := match r with
  | .dat d => some d
  | .fr c => some c.d
  | .slot i => match τ[i]? with
    | some (.own c) => some c.d
    | some (.dat d) => some d
    | _ => none
/-- a value shows data -/
inductive Shown (g : Gm) (K : PySem.W.Frag) (H S : Hp) : V → D → Prop
  | rep {v : V} {d : D} : Rep g K S v d → Shown g K H S v d
  | own {p : Addr} {o : HO} {c : Cn} : H p = some o → RepC g K S o c → Shown g K H S (.ref p) c.d

section
variable {g : Gm} {K : PySem.W.Frag} {W : WX} {α β : Type} {σ : St} {τ τ1 : DS} {H0 H S H1 S1 : Hp} {v : V}
theorem Abs.freezeSlot (A : Abs g K σ H τ S) {i : Nat} {c : Cn} {a : Addr} {o : HO} (hi : τ[i]? = some (SV.own c)) (hs : σ[i]? = some (some (.ref a))) (h : H a = some o) (n : S a = none) (r : RepC g K S o c) :
    Abs g K σ H (τ.set i (.dat c.d)) (upd S a o) ∧ Ext σ τ H S σ (τ.set i (.dat c.d)) H (upd S a o) := by
  have sm : Same S (upd S a o) := Same.upd_new n
  have hlt : i < τ.length := (List.getElem?_eq_some_iff.mp hi).1
  refine ⟨⟨fun b x e => ?_, by simpa using A.len, fun j d e => ?_, fun j c' e => ?_, fun j k c1 c2 e1 e2 => ?_⟩, sm, fun b x e nb no => ⟨e, ?_⟩, fun b hb => .inl ?_, fun _ e => e⟩
  · by_cases hb : b = a
    · subst hb; rw [upd_same] at e; rw [h]; exact e
    · rw [upd_ne hb] at e; exact A.le _ _ e
  · by_cases hj : i = j
    · subst hj
      rw [List.getElem?_set_self hlt] at e
      cases e
      exact ⟨_, hs, (r.mono sm).rep upd_same⟩
    · rw [List.getElem?_set_ne hj] at e
      obtain ⟨w, e1, r1⟩ := A.dat j d e
      exact ⟨w, e1, r1.mono sm⟩
  · by_cases hj : i = j
    · subst hj
      rw [List.getElem?_set_self hlt] at e
      cases e
    · rw [List.getElem?_set_ne hj] at e
      obtain ⟨b, o', e1, h1, n1, r1⟩ := A.own j c' e
      have ne : b ≠ a := fun q => by
        subst q
        exact hj (A.inj i j c c' hi e (hs.trans e1.symm))
      exact ⟨b, o', e1, h1, by rw [upd_ne ne]; exact n1, r1.mono sm⟩
  · by_cases h1 : i = j
    · subst h1; rw [List.getElem?_set_self hlt] at e1; cases e1
    · by_cases h2 : i = k
      · subst h2; rw [List.getElem?_set_self hlt] at e2; cases e2
      · rw [List.getElem?_set_ne h1] at e1
        rw [List.getElem?_set_ne h2] at e2
        exact A.inj _ _ _ _ e1 e2
  · have ne : b ≠ a := fun q => by
      subst q
      exact no ⟨i, c, hi, hs⟩
    rw [upd_ne ne]; exact nb
  · obtain ⟨j, c', e1, e2⟩ := hb
    by_cases hj : i = j
    · subst hj; rw [List.getElem?_set_self hlt] at e1; cases e1
    · rw [List.getElem?_set_ne hj] at e1
      exact ⟨j, c', e1, e2⟩
theorem Abs.ext_freeze (A : Abs g K σ H τ S) {p : Addr} {o : HO} (n : S p = none) (h0 : H0 p = none) (ha : ∀ a, H a = none → H0 a = none) (e : Ext σ τ1 H0 S1 σ τ H S) : Ext σ τ1 H0 S1 σ τ H (upd S p o) where
  st := e.st.trans (Same.upd_new n)
  pv := fun a x q na no => by
    obtain ⟨h1, n1⟩ := e.pv a x q na no
    exact ⟨h1, by rw [upd_ne (ne_of_none q h0)]; exact n1⟩
  ow := e.ow
  al := e.al

/-- as RepV, or a new object that was made fast meanwhile -/
def RepW (g : Gm) (K : PySem.W.Frag) (σ : St) (τ : DS) (H0 H S : Hp) (v : V) (r : RV) : Prop := RepV g K σ τ H0 H S v r ∨ ∃ c, r = .fr c ∧ Rep g K S v c.d
/-- what making fast at p leaves of other values -/
theorem RepW.fast {p : Addr} {o : HO} {τ' : DS} {u : V} {q : RV} (h : H p = some o) (n : S p = none) (sub : ∀ a, Own σ τ' a → Own σ τ a) (x : RepW g K σ τ H0 H S u q) : RepW g K σ τ' H0 H (upd S p o) u q := by
  have sm : Same S (upd S p o) := Same.upd_new n
  rcases x with x | ⟨c, e, r⟩
  · cases x with
    | dat r => exact .inl (.dat (r.mono sm))
    | fr h0 h' n' no r =>
      rename_i p' o' c'
      by_cases np : p' = p
      · subst np
        rw [h] at h'
        cases h'
        exact .inr ⟨_, rfl, (r.mono sm).rep upd_same⟩
      · exact .inl (.fr h0 h' (by rw [upd_ne np]; exact n') (fun z => no (sub _ z)) (r.mono sm))
    | slot h => exact .inl (.slot h)
  · exact .inr ⟨c, e, r.mono sm⟩
theorem own_sub {i : Nat} {d : D} {a : Addr} (h : Own σ (τ.set i (.dat d)) a) : Own σ τ a := by
  obtain ⟨j, c', z1, z2⟩ := h
  by_cases hj : i = j
  · subst hj
    by_cases hl : i < τ.length
    · rw [List.getElem?_set_self hl] at z1; cases z1
    · rw [List.getElem?_eq_none (by simpa using hl)] at z1; cases z1
  · rw [List.getElem?_set_ne hj] at z1
    exact ⟨j, c', z1, z2⟩
/-- a value made fast -/
theorem FinP.force {r : RV} {f : D → DS → Res β} {post : DS → β → Hp → Hp → Prop} (A : Abs g K σ H τ S) (e : Ext σ τ1 H1 S1 σ τ H S) (rv : RepW g K σ τ H1 H S v r) (h : FinP g K W σ τ1 H1 S1 ((force r τ).bind f) post) :
    ∃ τ' S' d, Abs g K σ H τ' S' ∧ Ext σ τ1 H1 S1 σ τ' H S' ∧ Rep g K S' v d ∧ Same S S' ∧ (∀ u q, RepW g K σ τ H1 H S u q → RepW g K σ τ' H1 H S' u q) ∧ FinP g K W σ τ1 H1 S1 (f d τ') post := by
  rcases rv with rv | ⟨c, rfl, r⟩
  · cases rv with
    | dat r => exact ⟨τ, S, _, A, e, r, Same.refl _, fun _ _ x => x, h⟩
    | fr h0 hp n no r =>
      rename_i p o c
      have A' := A.freeze hp n no
      refine ⟨τ, upd S p o, c.d, A', ?_, (r.mono (Same.upd_new n)).rep upd_same, Same.upd_new n, fun _ _ x => x.fast hp n fun _ z => z, h⟩
      exact ⟨e.st.trans (Same.upd_new n), fun a x q na no' => by
        obtain ⟨h1, n1⟩ := e.pv a x q na no'
        exact ⟨h1, by rw [upd_ne (ne_of_none q h0)]; exact n1⟩, e.ow, e.al⟩
    | slot hs =>
      rename_i i
      unfold DL.force at h
      dsimp only at h
      cases q : τ[i]? with
      | none => rw [q] at h; exact h.elim
      | some sv =>
        rw [q] at h
        cases sv with
        | emp => exact h.elim
        | dat d =>
          obtain ⟨w, e1, r⟩ := A.dat i d q
          rw [hs] at e1; cases e1
          exact ⟨τ, S, d, A, e, r, Same.refl _, fun _ _ x => x, h⟩
        | own c =>
          obtain ⟨a, o, e1, h1, n1, r⟩ := A.own i c q
          rw [hs] at e1; cases e1
          obtain ⟨A', e'⟩ := A.freezeSlot q hs h1 n1 r
          exact ⟨_, _, c.d, A', e.trans e', (r.mono (Same.upd_new n1)).rep upd_same, Same.upd_new n1, fun _ _ x => x.fast h1 n1 fun _ z => own_sub z, h⟩
  · exact ⟨τ, S, c.d, A, e, r, Same.refl _, fun _ _ x => x, h⟩

theorem peek_ok {r : RV} {d : D} (A : Abs g K σ H τ S) (rv : RepV g K σ τ H0 H S v r) (h : peek r τ = some d) : Shown g K H S v d := by
  cases rv with
  | dat r => cases h; exact .rep r
  | fr h0 hp n no r => cases h; exact .own hp r
  | slot hs =>
    rename_i i
    unfold peek at h
    dsimp only at h
    cases q : τ[i]? with
    | none => rw [q] at h; cases h
    | some sv =>
      rw [q] at h
      cases sv with
      | emp => cases h
      | dat d' =>
        cases h
        obtain ⟨w, e1, r⟩ := A.dat i d q
        rw [hs] at e1; cases e1
        exact .rep r
      | own c =>
        cases h
        obtain ⟨a, o, e1, h1, n1, r⟩ := A.own i c q
        rw [hs] at e1; cases e1
        exact .own h1 r
theorem Shown.lst {ds : List D} (x : Shown g K H S v (.lst ds)) (le : Same S H) : ∃ a vs, v = .ref a ∧ H a = some (.lst vs) ∧ RepL g K S vs ds := by
  generalize hd : D.lst ds = d at x
  cases x with
  | rep r =>
    subst hd
    cases r with
    | lst h r => exact ⟨_, _, rfl, le _ _ h, r⟩
  | own h r =>
    cases r with
    | lst r => cases hd; exact ⟨_, _, rfl, h, r⟩
    | dK r => cases hd
    | dT r => cases hd
theorem Shown.rol {ds : List D} (x : Shown g K H S v (.rol ds)) (le : Same S H) : ∃ a vs, v = .ref a ∧ SqL K H a vs ∧ RepL g K S vs ds := by
  generalize hd : D.rol ds = d at x
  cases x with
  | rep r =>
    subst hd
    cases r with
    | rol h r => exact ⟨_, _, rfl, le.seq h, r⟩
  | own h r => cases r <;> cases hd
theorem Shown.tup {ds : List D} (x : Shown g K H S v (.tup ds)) (le : Same S H) : ∃ a vs, v = .ref a ∧ SqT K H a vs ∧ RepL g K S vs ds := by
  generalize hd : D.tup ds = d at x
  cases x with
  | rep r =>
    subst hd
    cases r with
    | tup h r => exact ⟨_, _, rfl, Same.seqT le h, r⟩
  | own h r => cases r <;> cases hd
theorem Shown.int {i : Int} (x : Shown g K H S v (.int i)) : v = .int i := by
  generalize hd : D.int i = d at x
  cases x with
  | rep r => subst hd; cases r; rfl
  | own h r => cases r <;> cases hd
theorem Shown.bl {i : Bool} (x : Shown g K H S v (.bl i)) : v = .bl i := by
  generalize hd : D.bl i = d at x
  cases x with
  | rep r => subst hd; cases r; rfl
  | own h r => cases r <;> cases hd
theorem Shown.str {i : Str} (x : Shown g K H S v (.str i)) : v = .str i := by
  generalize hd : D.str i = d at x
  cases x with
  | rep r => subst hd; cases r; rfl
  | own h r => cases r <;> cases hd
theorem Shown.non (x : Shown g K H S v .non) : v = .non := by
  generalize hd : D.non = d at x
  cases x with
  | rep r => subst hd; cases r; rfl
  | own h r => cases r <;> cases hd
end

/-! ### operators by values -/
def ofO {α : Type} (o : Option α) (τ : DS) : Res α := match o with
  | some a => .ok a τ
  | none => .stuck
def op2 (f : D → D → Option RV) (x y : RV) (τ : DS) : Res RV := ofO ((peek x τ).bind fun dx => (peek y τ).bind fun dy => f dx dy) τ
def op1 (f : D → Option RV) (x : RV) (τ : DS) : Res RV := ofO ((peek x τ).bind f) τ
def mBin (f : D → D → Option RV) (ma mb : DS → Res RV) : DS → Res RV := fun τ => (ma τ).bind fun x τ1 => (mb τ1).bind fun y τ2 => op2 f x y τ2
def mUn (f : D → Option RV) (ma : DS → Res RV) : DS → Res RV := fun τ => (ma τ).bind fun x τ1 => op1 f x τ1

/-- the end of an operation: its value, or it is stuck -/
def EndV (g : Gm) (K : PySem.W.Frag) (σ : St) (τ : DS) (H S : Hp) (o : Option RV) (Q : VK) : Prop := match o with
  | some r => ∀ v H' S', Abs g K σ H' τ S' → Ext σ τ H S σ τ H' S' → RepV g K σ τ H H' S' v r → Q v H'
  | none => False
def OpD (X : Cx) (g : Gm) (fn : Value → Value → Sem Value) (f : D → D → Option RV) : Prop :=
  ∀ (pins : List (Addr × Obj)) (s : Shared) (σ : St) (H : Hp) (τ : DS) (S : Hp) (x y : V) (v u : Value) (dx dy : D) (Q : VK), Inv X pins σ H s → RelV x v → RelV y u → Abs g X.K σ H τ S → Shown g X.K H S x dx → Shown g X.K H S y dy →
    EndV g X.K σ τ H S (f dx dy) Q → wpAny (model X.prog X.w) X.A (fn v u) (EP X pins σ Q) X.xe s
def UnD (X : Cx) (g : Gm) (fn : Value → Sem Value) (f : D → Option RV) : Prop :=
  ∀ (pins : List (Addr × Obj)) (s : Shared) (σ : St) (H : Hp) (τ : DS) (S : Hp) (x : V) (v : Value) (dx : D) (Q : VK), Inv X pins σ H s → RelV x v → Abs g X.K σ H τ S → Shown g X.K H S x dx →
    EndV g X.K σ τ H S (f dx) Q → wpAny (model X.prog X.w) X.A (fn v) (EP X pins σ Q) X.xe s
section
variable {g : Gm} {K : PySem.W.Frag} {σ : St} {τ : DS} {H S : Hp} {Q : VK}
theorem EndV.here {v : V} {d : D} (h : EndV g K σ τ H S (some (.dat d)) Q) (A : Abs g K σ H τ S) (r : Rep g K S v d) : Q v H := h v H S A .refl (.dat r)
/-- a new tuple -/
theorem EndV.tup {ds : List D} {vs : List V} (h : EndV g K σ τ H S (some (.dat (.tup ds))) Q) (A : Abs g K σ H τ S) (r : RepL g K S vs ds) : ∀ p, H p = none → Q (.ref p) (upd H p (.tup vs)) := fun p hp =>
  h _ _ _ (A.new hp _) (A.ext_new hp _) (.dat (.tup (SqT.of upd_same) (r.mono (Same.upd_new (A.sn hp)))))
theorem Own.not_new (A : Abs g K σ H τ S) {p : Addr} (hp : H p = none) : ¬ Own σ τ p := fun q => by
  obtain ⟨o, e⟩ := A.own_some q
  rw [hp] at e; cases e
/-- a new list -/
theorem EndV.lst {ds : List D} {vs : List V} (h : EndV g K σ τ H S (some (.fr (.lst ds))) Q) (A : Abs g K σ H τ S) (r : RepL g K S vs ds) : ∀ p, H p = none → Q (.ref p) (upd H p (.lst vs)) := fun p hp =>
  h _ _ _ (A.priv hp _) (A.ext_priv hp _) (.fr hp upd_same (A.sn hp) (Own.not_new A hp) (.lst r))
theorem EndV.some_of {o : Option RV} (h : EndV g K σ τ H S o Q) : ∃ r, o = some r := by
  cases o with
  | none => exact h.elim
  | some r => exact ⟨r, rfl⟩
end

section
variable {X : Cx} {g : Gm} {W : WX} {a b c : Expr} {ma mb mc : DS → Res RV} {pos : Pos}
/-- LE's end by EndV -/
theorem endV_fin {K : PySem.W.Frag} {σ : St} {τ : DS} {H0 H S : Hp} {o : Option RV} {Q : VK} (ha : ∀ a, H a = none → H0 a = none) (h : FinP g K W σ τ H S (ofO o τ) fun τ' r H' S' => ∀ v, RepV g K σ τ' H0 H' S' v r → Q v H') : EndV g K σ τ H S o Q := by
  cases o with
  | none => exact h
  | some r => exact fun v H' S' A e rv => h H' S' A e v (rv.older ha)
theorem ofO_bind_cases {α β : Type} {K : PySem.W.Frag} {σ : St} {τ τ1 : DS} {H S : Hp} {o : Option α} {f : α → Option β} {p : DS → β → Hp → Hp → Prop} (h : FinP g K W σ τ H S (ofO (o.bind f) τ1) p) : ∃ a, o = some a ∧ FinP g K W σ τ H S (ofO (f a) τ1) p := by
  cases o with
  | none => exact h.elim
  | some a => exact ⟨a, rfl, h⟩
theorem LE.mono {K : PySem.W.Frag} {m : DS → Res RV} {σ : St} {H : Hp} {Q Q' : VK} (h : LE g K W m σ H Q) (q : ∀ v H1, Q v H1 → Q' v H1) : LE g K W m σ H Q' := by
  obtain ⟨τ, S, A, h⟩ := h
  exact ⟨τ, S, A, h.mono fun _ _ _ _ _ _ z v rv => q _ _ (z v rv)⟩
/-- two parts, looked at behind both -/
theorem two {K : PySem.W.Frag} {f : D → D → Option RV} {σ : St} {H : Hp} {Q : VK} (h : LE g K W (mBin f ma mb) σ H Q) :
    LE g K W ma σ H fun x H1 => LE g K W mb σ H1 fun y H2 => ∃ τ S dx dy, Abs g K σ H2 τ S ∧ Shown g K H2 S x dx ∧ Shown g K H2 S y dy ∧ EndV g K σ τ H2 S (f dx dy) Q := by
  refine LE.mono (LE.bind h) fun x H1 ⟨τ1, S1, rx, A1, rvx, al, h1⟩ => ?_
  refine ⟨τ1, S1, A1, (FinP.bind h1).mono fun τ2 ry H2 S2 A2 e2 h2 y rvy => ?_⟩
  obtain ⟨dx, e3, h3⟩ := ofO_bind_cases h2
  obtain ⟨dy, e4, h4⟩ := ofO_bind_cases h3
  exact ⟨τ2, S2, dx, dy, A2, peek_ok A2 (rvx.ext e2 al) e3, peek_ok A2 rvy e4, endV_fin (fun a z => al a (e2.al a z)) h4⟩
theorem one {K : PySem.W.Frag} {f : D → Option RV} {σ : St} {H : Hp} {Q : VK} (h : LE g K W (mUn f ma) σ H Q) :
    LE g K W ma σ H fun x H1 => ∃ τ S dx, Abs g K σ H1 τ S ∧ Shown g K H1 S x dx ∧ EndV g K σ τ H1 S (f dx) Q := by
  refine LE.mono (LE.bind h) fun x H1 ⟨τ1, S1, rx, A1, rvx, al, h1⟩ => ?_
  obtain ⟨dx, e3, h3⟩ := ofO_bind_cases h1
  exact ⟨τ1, S1, dx, A1, peek_ok A1 rvx e3, endV_fin al h3⟩

theorem de_bin {op : Operator} {f : D → D → Option RV} (ho : OpD X g (binaryOp op) f) (ha : DE X g W a ma) (hb : DE X g W b mb) : DE X g W (.BinOp a op b pos) (mBin f ma mb) := by
  refine ⟨⟨fun pins s σ H Q I h => ?_⟩⟩
  exact wpAny_BinOp (binT ha.pe hb.pe I (two h) fun v u s2 x y H2 I2 rx ry ⟨τ, S, dx, dy, A, sx, sy, e⟩ => ho pins s2 σ H2 τ S x y v u dx dy Q I2 rx ry A sx sy e)
theorem de_un {op : UnaryOp} {f : D → Option RV} (ho : UnD X g (unaryOp op) f) (ha : DE X g W a ma) : DE X g W (.UnaryOp op a pos) (mUn f ma) := by
  refine ⟨⟨fun pins s σ H Q I h => ?_⟩⟩
  exact UnaryOp_ (thn (ha.pe.run pins s σ H _ I (one h)) fun v s1 ⟨x, H1, I1, r1, τ, S, dx, A, sx, e⟩ => ho pins s1 σ H1 τ S x v dx Q I1 r1 A sx e)
theorem dpc_bin {op : CmpOp} {f : D → D → Option RV} (ho : OpD X g (compareOp op) f) (ha : DE X g W a ma) (hb : DE X g W b mb) : PC X op a b (LE g X.K W (mBin f ma mb)) := by
  refine ⟨fun pins s σ H Q I h => ?_⟩
  exact binT ha.pe hb.pe I (two h) fun v u s2 x y H2 I2 rx ry ⟨τ, S, dx, dy, A, sx, sy, e⟩ => ho pins s2 σ H2 τ S x y v u dx dy Q I2 rx ry A sx sy e
theorem de_cmp {op : CmpOp} {f : D → D → Option RV} (ho : OpD X g (compareOp op) f) (ha : DE X g W a ma) (hb : DE X g W b mb) (h1 : behindInMarks op b = false := by first | exact nobehind _ (by decide) (by decide) | rfl) :
    DE X g W (.Compare a [op] [b] pos) (mBin f ma mb) := ⟨pe_cmp (dpc_bin ho ha hb) h1⟩

/-! ### tests -/
def asB (r : RV) : Option Bool := match r with
  | .dat (.bl b) => some b
  | _ => none
/-- an expression as a test -/
def mTest (m : DS → Res RV) : DS → Res Bool := fun τ => (m τ).bind fun r τ1 => ofO (asB r) τ1
theorem test_of {K : PySem.W.Frag} {m : DS → Res RV} {σ : St} {H : Hp} {Q : Bool → Hp → Prop} (h : LT g K W (mTest m) σ H Q) : tB (LE g K W m) σ H Q := by
  obtain ⟨τ, S, A, h⟩ := h
  refine ⟨τ, S, A, (FinP.bind h).mono fun τ1 r H1 S1 A1 e1 h1 v rv => ?_⟩
  cases rv with
  | dat r =>
    cases r with
    | bl b => exact ⟨b, rfl, FinP.here A1 h1⟩
    | _ => exact (show False from h1).elim
  | fr _ _ _ _ _ => exact (show False from h1).elim
  | slot _ => exact (show False from h1).elim
theorem dt_cmp {op : CmpOp} {f : D → D → Option RV} (ho : OpD X g (compareOp op) f) (ha : DE X g W a ma) (hb : DE X g W b mb) (h1 : behindInMarks op b = false := by first | exact nobehind _ (by decide) (by decide) | rfl) :
    DT X g W (.Compare a [op] [b] pos) (mTest (mBin f ma mb)) := ⟨PT.imp (pt_cmp (dpc_bin ho ha hb) h1) fun _ _ _ h => test_of h⟩
theorem dt_val {e : Expr} {m : DS → Res RV} (h : DE X g W e m) (he : ∀ whole, isTrue e X.env whole = (do let v ← whole; standAt e.pos; holding [v] (truthy v)) := by intro _; rfl) : DT X g W e (mTest m) :=
  ⟨PT.imp (pt_val h.pe he) fun _ _ _ h => test_of h⟩
variable {tA tB' : DS → Res Bool} {rest : List Expr}
def mAndT (t u : DS → Res Bool) : DS → Res Bool := fun τ => (t τ).bind fun b τ1 => if b = true then u τ1 else .ok false τ1
def mOrT (t u : DS → Res Bool) : DS → Res Bool := fun τ => (t τ).bind fun b τ1 => if b = true then .ok true τ1 else u τ1
def mNotT (t : DS → Res Bool) : DS → Res Bool := fun τ => (t τ).bind fun b τ1 => .ok (!b) τ1
structure DW (X : Cx) (g : Gm) (W : WX) (e : Expr) (m : DS → Res Bool) : Prop where
  pw : PW X e (LT g X.K W m)
theorem PW.imp {X : Cx} {e : Expr} {t t' : TT} (h : PW X e t) (i : ∀ σ H Q, t' σ H Q → t σ H Q) : PW X e t' := ⟨fun wh pins s σ H Q I q => h.run wh pins s σ H Q I (i σ H Q q)⟩
theorem LT.bind {K : PySem.W.Frag} {t : DS → Res Bool} {f : Bool → DS → Res Bool} {σ : St} {H : Hp} {Q : Bool → Hp → Prop} (h : LT g K W (fun τ => (t τ).bind f) σ H Q) : LT g K W t σ H fun b H1 => LT g K W (f b) σ H1 Q := by
  obtain ⟨τ, S, A, h⟩ := h
  exact ⟨τ, S, A, (FinP.bind h).mono fun τ1 b H1 S1 A1 e1 h1 => ⟨τ1, S1, A1, h1⟩⟩
theorem LT.mono {K : PySem.W.Frag} {m : DS → Res Bool} {σ : St} {H : Hp} {Q Q' : Bool → Hp → Prop} (h : LT g K W m σ H Q) (q : ∀ v H1, Q v H1 → Q' v H1) : LT g K W m σ H Q' := by
  obtain ⟨τ, S, A, h⟩ := h
  exact ⟨τ, S, A, h.mono fun _ _ _ _ _ _ z => q _ _ z⟩
theorem LT.ok {K : PySem.W.Frag} {b : Bool} {σ : St} {H : Hp} {Q : Bool → Hp → Prop} (h : LT g K W (fun τ => .ok b τ) σ H Q) : Q b H := by
  obtain ⟨τ, S, A, h⟩ := h
  exact FinP.here A h
theorem LT.and {K : PySem.W.Frag} {σ : St} {H : Hp} {Q : Bool → Hp → Prop} (h : LT g K W (mAndT tA tB') σ H Q) : tAnd (LT g K W tA) (LT g K W tB') σ H Q := by
  refine (LT.bind h).mono fun b H1 h1 => ?_
  cases b with
  | true => exact iteT h1
  | false => exact iteF (LT.ok h1)
theorem LT.or {K : PySem.W.Frag} {σ : St} {H : Hp} {Q : Bool → Hp → Prop} (h : LT g K W (mOrT tA tB') σ H Q) : tOr (LT g K W tA) (LT g K W tB') σ H Q := by
  refine (LT.bind h).mono fun b H1 h1 => ?_
  cases b with
  | true => exact iteT (LT.ok h1)
  | false => exact iteF h1
theorem dw_and1 (ha : DT X g W a tA) : DW X g W (.BoolOp .And [a] pos) tA := ⟨pw_and1 ha.pt⟩
theorem dw_or1 (ha : DT X g W a tA) : DW X g W (.BoolOp .Or [a] pos) tA := ⟨pw_or1 ha.pt⟩
theorem dw_and (ha : DT X g W a tA) (hb : DW X g W (.BoolOp .And (b :: rest) pos) tB') : DW X g W (.BoolOp .And (a :: b :: rest) pos) (mAndT tA tB') := ⟨PW.imp (pw_and ha.pt hb.pw) fun _ _ _ h => LT.and h⟩
theorem dw_or (ha : DT X g W a tA) (hb : DW X g W (.BoolOp .Or (b :: rest) pos) tB') : DW X g W (.BoolOp .Or (a :: b :: rest) pos) (mOrT tA tB') := ⟨PW.imp (pw_or ha.pt hb.pw) fun _ _ _ h => LT.or h⟩
theorem dt_w {e : Expr} (h : DW X g W e tA) : DT X g W e tA := ⟨h.pw.pt⟩
theorem dt_not (ha : DT X g W a tA) : DT X g W (.UnaryOp .Not a pos) (mNotT tA) := ⟨PT.imp (pt_not ha.pt) fun _ _ _ h => (LT.bind h).mono fun _ _ h1 => LT.ok h1⟩
/-- as values -/
def mAnd (ma mb : DS → Res RV) : DS → Res RV := fun τ => (mTest ma τ).bind fun b τ1 => if b = true then mb τ1 else .ok (.dat (.bl false)) τ1
def mOr (ma mb : DS → Res RV) : DS → Res RV := fun τ => (mTest ma τ).bind fun b τ1 => if b = true then .ok (.dat (.bl true)) τ1 else mb τ1
def mNot (ma : DS → Res RV) : DS → Res RV := fun τ => (mTest ma τ).bind fun b τ1 => .ok (.dat (.bl (!b))) τ1
/-- a test, then what follows by its answer -/
theorem LE.testB {K : PySem.W.Frag} {m : DS → Res Bool} {f : Bool → DS → Res RV} {σ : St} {H : Hp} {Q : VK} (h : LE g K W (fun τ => (m τ).bind f) σ H Q) :
    LT g K W m σ H fun b H1 => ∃ τ1 S1, Abs g K σ H1 τ1 S1 ∧ (∀ a, H1 a = none → H a = none) ∧ FinP g K W σ τ1 H1 S1 (f b τ1) fun τ' r H' S' => ∀ v, RepV g K σ τ' H H' S' v r → Q v H' := by
  obtain ⟨τ, S, A, h⟩ := h
  exact ⟨τ, S, A, (FinP.bind h).mono fun τ1 b H1 S1 A1 e1 h1 => ⟨τ1, S1, A1, e1.al, h1⟩⟩
theorem FinP.val {K : PySem.W.Frag} {σ : St} {τ : DS} {H0 H S : Hp} {d : D} {v : V} {Q : VK} (A : Abs g K σ H τ S) (r : ∀ S, Rep g K S v d) (h : FinP g K W σ τ H S (.ok (.dat d) τ) fun τ' r H' S' => ∀ v, RepV g K σ τ' H0 H' S' v r → Q v H') : Q v H :=
  FinP.here A h v (.dat (r _))
theorem de_one {op : BoolOp} (h : DE X g W a ma) : DE X g W (.BoolOp op [a] pos) ma := ⟨pe_one h.pe⟩
theorem de_and (ha : DE X g W a ma) (hb : DE X g W (.BoolOp .And (b :: rest) pos) mb) : DE X g W (.BoolOp .And (a :: b :: rest) pos) (mAnd ma mb) := by
  refine ⟨PE.imp (pe_and ha.pe hb.pe) fun σ H Q h => ?_⟩
  refine LE.mono (test_of (LE.testB h)) fun x H1 ⟨c, e, τ1, S1, A1, al, h1⟩ => ⟨c, e, ?_⟩
  cases c with
  | true => exact iteT (LE.of_fin A1 al h1)
  | false => exact iteF (FinP.val A1 (fun _ => .bl false) h1)
theorem de_or (ha : DE X g W a ma) (hb : DE X g W (.BoolOp .Or (b :: rest) pos) mb) : DE X g W (.BoolOp .Or (a :: b :: rest) pos) (mOr ma mb) := by
  refine ⟨PE.imp (pe_or ha.pe hb.pe) fun σ H Q h => ?_⟩
  refine LE.mono (test_of (LE.testB h)) fun x H1 ⟨c, e, τ1, S1, A1, al, h1⟩ => ⟨c, e, ?_⟩
  cases c with
  | true => exact iteT (FinP.val A1 (fun _ => .bl true) h1)
  | false => exact iteF (LE.of_fin A1 al h1)
theorem de_not (ha : DE X g W a ma) : DE X g W (.UnaryOp .Not a pos) (mNot ma) := by
  refine ⟨PE.imp (pe_not ha.pe) fun σ H Q h => ?_⟩
  exact LE.mono (test_of (LE.testB h)) fun x H1 ⟨c, e, τ1, S1, A1, al, h1⟩ => ⟨c, e, FinP.val A1 (fun _ => .bl (!c)) h1⟩
def mIf (t : DS → Res Bool) (ma mb : DS → Res RV) : DS → Res RV := fun τ => (t τ).bind fun b τ1 => if b = true then ma τ1 else mb τ1
theorem de_if {tc : DS → Res Bool} (hc : DT X g W c tc) (ha : DE X g W a ma) (hb : DE X g W b mb) : DE X g W (.IfExp c a b pos) (mIf tc ma mb) := by
  refine ⟨PE.imp (pe_ifExp hc.pt ha.pe hb.pe) fun σ H Q h => ?_⟩
  refine (LE.testB h).mono fun d H1 ⟨τ1, S1, A1, al, h1⟩ => ?_
  cases d with
  | true => exact iteT (LE.of_fin A1 al h1)
  | false => exact iteF (LE.of_fin A1 al h1)
/-- is None -/
def mIsNone (ma : DS → Res RV) : DS → Res RV := mUn (fun d => match d with | .non => some (.dat (.bl true)) | _ => some (.dat (.bl false))) ma
def mNotNone (ma : DS → Res RV) : DS → Res RV := mUn (fun d => match d with | .non => some (.dat (.bl false)) | _ => some (.dat (.bl true))) ma
theorem Shown.is_non {K : PySem.W.Frag} {H S : Hp} {v : V} {d : D} (x : Shown g K H S v d) : (decide (v = V.non)) = (match d with | .non => true | _ => false) := by
  cases x with
  | rep r => cases r <;> simp
  | own h r => cases r <;> simp [Cn.d]
theorem dpc_isNone {j : Nat} {pos' : Pos} (ha : DE X g W a ma) : PC X .Is a (.Constant .none j pos') (LE g X.K W (mIsNone ma)) := by
  refine ⟨fun pins s σ H Q I h => (pc_isN ha.pe).run pins s σ H Q I ?_⟩
  refine LE.mono (one h) fun x H1 ⟨τ, S, d, A, sx, e⟩ => ?_
  rw [sx.is_non]
  cases d <;> exact e.here A (.bl _)
theorem dpc_notNone {j : Nat} {pos' : Pos} (ha : DE X g W a ma) : PC X .IsNot a (.Constant .none j pos') (LE g X.K W (mNotNone ma)) := by
  refine ⟨fun pins s σ H Q I h => (pc_notN ha.pe).run pins s σ H Q I ?_⟩
  refine LE.mono (one h) fun x H1 ⟨τ, S, d, A, sx, e⟩ => ?_
  rw [sx.is_non]
  cases d <;> exact e.here A (.bl _)
theorem de_isNone {j : Nat} {pos' : Pos} (ha : DE X g W a ma) : DE X g W (.Compare a [.Is] [.Constant .none j pos'] pos) (mIsNone ma) := ⟨pe_cmp (dpc_isNone ha)⟩
theorem dt_isNone {j : Nat} {pos' : Pos} (ha : DE X g W a ma) : DT X g W (.Compare a [.Is] [.Constant .none j pos'] pos) (mTest (mIsNone ma)) := ⟨PT.imp (pt_cmp (dpc_isNone ha)) fun _ _ _ h => test_of h⟩
theorem de_notNone {j : Nat} {pos' : Pos} (ha : DE X g W a ma) : DE X g W (.Compare a [.IsNot] [.Constant .none j pos'] pos) (mNotNone ma) := ⟨pe_cmp (dpc_notNone ha)⟩
theorem dt_notNone {j : Nat} {pos' : Pos} (ha : DE X g W a ma) : DT X g W (.Compare a [.IsNot] [.Constant .none j pos'] pos) (mTest (mNotNone ma)) := ⟨PT.imp (pt_cmp (dpc_notNone ha)) fun _ _ _ h => test_of h⟩

/-! ### names and constants -/
def mVar (i : Nat) : DS → Res RV := fun τ => match τ[i]? with
  | some (.dat d) => .ok (.dat d) τ
  | some (.own _) => .ok (.slot i) τ
  | _ => .stuck
def mC (d : D) : DS → Res RV := fun τ => .ok (.dat d) τ
theorem de_var {i : Nat} {x : Str} (hN : X.N[i]? = some x := by rfl) (hv : Vis X.env.scope x := by first | exact Or.inl rfl | exact Or.inr (Or.inl rfl) | exact Or.inr (Or.inr rfl)) (hd : (x == ("__debug__" : Str)) = false := by decide)
    (hcd : (x == ("__classdict__" : Str)) = false := by decide) : DE X g W (.Name x pos) (mVar i) := by
  refine ⟨PE.imp (pe_var (i := i) hN hv hd hcd) fun σ H Q ⟨τ, S, A, h⟩ => ?_⟩
  unfold mVar at h
  cases q : τ[i]? with
  | none => rw [q] at h; exact h.elim
  | some sv =>
    rw [q] at h
    cases sv with
    | emp => exact h.elim
    | dat d =>
      obtain ⟨v, e1, r⟩ := A.dat i d q
      exact ⟨v, e1, FinP.here A h v (.dat r)⟩
    | own c =>
      obtain ⟨p, o, e1, h1, n1, r⟩ := A.own i c q
      exact ⟨_, e1, FinP.here A h _ (.slot e1)⟩
theorem LE.const {K : PySem.W.Frag} {σ : St} {H : Hp} {d : D} {v : V} {Q : VK} (h : LE g K W (mC d) σ H Q) (r : ∀ S, Rep g K S v d) : Q v H := by
  obtain ⟨τ, S, A, h⟩ := h
  exact FinP.val A r h
theorem de_int {i : Int} {j : Nat} : DE X g W (.Constant (.int i) j pos) (mC (.int i)) := ⟨PE.imp pe_int fun _ _ _ h => LE.const h fun _ => .int i⟩
theorem de_bl {i : Bool} {j : Nat} : DE X g W (.Constant (.bool i) j pos) (mC (.bl i)) := ⟨PE.imp pe_bl fun _ _ _ h => LE.const h fun _ => .bl i⟩
theorem de_str {i : Str} {j : Nat} : DE X g W (.Constant (.str i) j pos) (mC (.str i)) := ⟨PE.imp pe_str fun _ _ _ h => LE.const h fun _ => .str i⟩
theorem de_non {j : Nat} : DE X g W (.Constant .none j pos) (mC .non) := ⟨PE.imp pe_non fun _ _ _ h => LE.const h fun _ => .non⟩
/-- a name of the module -/
theorem de_glob {x : Str} {v : V} {u : Value} {d : D} (hg : Gl X x) (hm : X.mg x = some u) (r : RelV v u) (rd : ∀ S, Rep g X.K S v d) (hd : (x == ("__debug__" : Str)) = false := by decide) : DE X g W (.Name x pos) (mC d) :=
  ⟨PE.imp (pe_glob hg hm r hd) fun _ _ _ h => LE.const h rd⟩
theorem de_sym {x : Str} {n : Nat} (hg : Gl X x) (hm : X.mg x = some (.ref (g n))) (hd : (x == ("__debug__" : Str)) = false := by decide) : DE X g W (.Name x pos) (mC (.sym n)) :=
  de_glob (v := .ref (g n)) hg hm rfl (fun _ => .sym n) hd

/-! ### arguments -/
inductive RepVs (g : Gm) (K : PySem.W.Frag) (σ : St) (τ : DS) (H0 H S : Hp) : List V → List RV → Prop
  | nil : RepVs g K σ τ H0 H S [] []
  | cons {v : V} {vs : List V} {r : RV} {rs : List RV} : RepV g K σ τ H0 H S v r → RepVs g K σ τ H0 H S vs rs → (∀ c, r = .fr c → ∀ u q, (u, q) ∈ vs.zip rs → ∀ c', q = .fr c' → u ≠ v) → RepVs g K σ τ H0 H S (v :: vs) (r :: rs)
theorem RepVs.each {K : PySem.W.Frag} {σ : St} {τ : DS} {H0 H S : Hp} {vs : List V} {rs : List RV} (x : RepVs g K σ τ H0 H S vs rs) : ∀ u q, (u, q) ∈ vs.zip rs → RepV g K σ τ H0 H S u q := by
  induction x with
  | nil => intro u q h; simp at h
  | cons a _ _ ih =>
    intro u q h
    rw [List.zip_cons_cons] at h
    rcases List.mem_cons.mp h with e | h
    · cases e; exact a
    · exact ih u q h
def LA (g : Gm) (K : PySem.W.Frag) (W : WX) (m : DS → Res (List RV)) : TA := fun σ H Q => ∃ τ S, Abs g K σ H τ S ∧ FinP g K W σ τ H S (m τ) fun τ' rs H' S' => ∀ vs, RepVs g K σ τ' H H' S' vs rs → Q vs H'
structure DA (X : Cx) (g : Gm) (W : WX) (es : List Expr) (m : DS → Res (List RV)) : Prop where
  pa : PA X es (LA g X.K W m)
theorem PA.imp {X : Cx} {e : List Expr} {t t' : TA} (h : PA X e t) (i : ∀ σ H Q, t' σ H Q → t σ H Q) : PA X e t' := ⟨fun pos pins s σ H Q I q => h.run pos pins s σ H Q I (i σ H Q q)⟩
def mNil : DS → Res (List RV) := fun τ => .ok [] τ
def mCons (ma : DS → Res RV) (mr : DS → Res (List RV)) : DS → Res (List RV) := fun τ => (ma τ).bind fun r τ1 => (mr τ1).bind fun rs τ2 => .ok (r :: rs) τ2
theorem da_nil : DA X g W [] mNil := ⟨PA.imp pa_nil fun _ _ _ ⟨_, _, A, h⟩ => FinP.here A h [] .nil⟩
theorem da_cons {e : Expr} {es : List Expr} {mr : DS → Res (List RV)} (ha : DE X g W e ma) (hr : DA X g W es mr) (hs : starEach (e :: es) X.env = (false, eval e X.env) :: starEach es X.env := by rfl) : DA X g W (e :: es) (mCons ma mr) := by
  refine ⟨PA.imp (pa_cons ha.pe hr.pa hs) fun σ H Q ⟨τ, S, A, h⟩ => ?_⟩
  refine ⟨τ, S, A, (FinP.bind h).mono fun τ1 r H1 S1 A1 e1 h1 v rv => ?_⟩
  refine ⟨τ1, S1, A1, (FinP.bind h1).mono fun τ2 rs H2 S2 A2 e2 h2 vs rvs => ?_⟩
  have old : ∀ {vs : List V} {rs : List RV}, RepVs g X.K σ τ2 H1 H2 S2 vs rs → RepVs g X.K σ τ2 H H2 S2 vs rs := by
    intro vs rs x
    induction x with
    | nil => exact .nil
    | cons a _ ne ih => exact .cons (a.older e1.al) ih ne
  refine FinP.here A2 h2 (v :: vs) (.cons (rv.ext e2 e1.al) (old rvs) fun c hc u q hm c' hc' z => ?_)
  subst hc hc' z
  have x := rvs.each _ _ hm
  cases rv with
  | fr _ hp _ _ _ => cases x with
    | fr h0 _ _ _ _ => rw [hp] at h0; cases h0
end
end DL

/-! DL3: displays, statements, targets, while, for over data. -/
namespace DL
open PySem PySem.Spec PyProof.Rows L2

section
variable {g : Gm} {K : PySem.W.Frag} {W : WX} {α β : Type} {σ σ' σ1 σ2 : St} {τ τ' τ1 τ2 : DS} {H0 H S H1 S1 H' S' : Hp} {v : V}
/-! ### several values made fast -/
def forceAll : List RV → DS → Res (List D)
  | [], τ => .ok [] τ
  | r :: rs, τ => (force r τ).bind fun d τ1 => (forceAll rs τ1).bind fun ds τ2 => .ok (d :: ds) τ2
theorem Res.bind_assoc {γ : Type} (r : Res α) (f : α → DS → Res β) (h : β → DS → Res γ) : (r.bind f).bind h = r.bind fun a τ => (f a τ).bind h := by
  cases r <;> rfl
inductive RepWs (g : Gm) (K : PySem.W.Frag) (σ : St) (τ : DS) (H0 H S : Hp) : List V → List RV → Prop
  | nil : RepWs g K σ τ H0 H S [] []
  | cons {v : V} {vs : List V} {r : RV} {rs : List RV} : RepW g K σ τ H0 H S v r → RepWs g K σ τ H0 H S vs rs → RepWs g K σ τ H0 H S (v :: vs) (r :: rs)
theorem RepVs.w {vs : List V} {rs : List RV} (x : RepVs g K σ τ H0 H S vs rs) : RepWs g K σ τ H0 H S vs rs := by
  induction x with
  | nil => exact .nil
  | cons a _ _ ih => exact .cons (.inl a) ih
theorem RepWs.map {H2 S2 : Hp} {vs : List V} {rs : List RV} (x : RepWs g K σ τ H0 H S vs rs) (f : ∀ u q, RepW g K σ τ H0 H S u q → RepW g K σ τ1 H0 H2 S2 u q) : RepWs g K σ τ1 H0 H2 S2 vs rs := by
  induction x with
  | nil => exact .nil
  | cons a _ ih => exact .cons (f _ _ a) ih
theorem FinP.forceAll {post : DS → β → Hp → Hp → Prop} : ∀ {rs : List RV} {f : List D → DS → Res β} {vs : List V} {τ : DS} {S : Hp}, Abs g K σ H τ S → Ext σ τ1 H1 S1 σ τ H S → RepWs g K σ τ H1 H S vs rs → FinP g K W σ τ1 H1 S1 ((forceAll rs τ).bind f) post →
    ∃ τ' S' ds, Abs g K σ H τ' S' ∧ Ext σ τ1 H1 S1 σ τ' H S' ∧ RepL g K S' vs ds ∧ Same S S' ∧ FinP g K W σ τ1 H1 S1 (f ds τ') post
  | [], f, _, τ, S, A, e, .nil, h => ⟨τ, S, [], A, e, .nil, Same.refl _, h⟩
  | r :: rs, f, v :: vs, τ, S, A, e, .cons x xs, h => by
    unfold DL.forceAll at h
    rw [Res.bind_assoc] at h
    obtain ⟨τ2, S2, d, A2, e2, r2, sm, mv, h2⟩ := FinP.force A e x h
    rw [Res.bind_assoc] at h2
    obtain ⟨τ3, S3, ds, A3, e3, r3, sm3, h3⟩ := FinP.forceAll (f := fun ds τ2 => (Res.ok (d :: ds) τ2).bind f) A2 e2 (xs.map mv) h2
    exact ⟨τ3, S3, d :: ds, A3, e3, .cons (r2.mono sm3) r3, sm.trans sm3, h3⟩
end

abbrev bigN : Nat := 1000000
theorem bigN_le : bigN ≤ sizeLine := by decide
section
variable {X : Cx} {g : Gm} {W : WX} {es : List Expr} {ma : DS → Res (List RV)} {pos : Pos}
/-- arguments, made fast, then what follows -/
def mFast (ma : DS → Res (List RV)) {α : Type} (f : List D → DS → Res α) : DS → Res α := fun τ => (ma τ).bind fun rs τ1 => (forceAll rs τ1).bind f
theorem LA.fast {K : PySem.W.Frag} {α : Type} {f : List D → DS → Res α} {σ : St} {τ : DS} {H S : Hp} {post : DS → α → Hp → Hp → Prop} (h : FinP g K W σ τ H S (mFast ma f τ) post) :
    FinP g K W σ τ H S (ma τ) fun τ1 rs H1 S1 => ∀ vs, RepVs g K σ τ1 H H1 S1 vs rs → ∃ τ' S' ds, Abs g K σ H1 τ' S' ∧ Ext σ τ H S σ τ' H1 S' ∧ RepL g K S' vs ds ∧ FinP g K W σ τ' H1 S' (f ds τ') post := by
  unfold mFast at h
  revert h
  generalize ma τ = r
  intro h
  cases r with
  | err c τ' => exact h
  | stuck => exact h
  | ok rs τ1 =>
    intro H1 S1 A1 e1 vs rvs
    obtain ⟨τ', S', ds, A', e', rl, sm, h3⟩ := FinP.forceAll A1 e1 rvs.w (show FinP g K W σ τ H S ((DL.forceAll rs τ1).bind f) post from h)
    exact ⟨τ', S', ds, A', e', rl, h3.ext e'⟩
/-- expressions of arguments made fast -/
theorem LE.fast {K : PySem.W.Frag} {f : List D → DS → Res RV} {σ : St} {H : Hp} {Q : VK} (h : LE g K W (mFast ma f) σ H Q) :
    LA g K W ma σ H fun vs H1 => ∃ τ S ds, Abs g K σ H1 τ S ∧ (∀ a, H1 a = none → H a = none) ∧ RepL g K S vs ds ∧ FinP g K W σ τ H1 S (f ds τ) fun τ' r H' S' => ∀ v, RepV g K σ τ' H H' S' v r → Q v H' := by
  obtain ⟨τ, S, A, h⟩ := h
  refine ⟨τ, S, A, (LA.fast h).mono fun τ1 rs H1 S1 A1 e1 q vs rvs => ?_⟩
  obtain ⟨τ', S', ds, A', e', rl, h3⟩ := q vs rvs
  exact ⟨τ', S', ds, A', e'.al, rl, h3⟩
theorem LA.mono {K : PySem.W.Frag} {m : DS → Res (List RV)} {σ : St} {H : Hp} {Q Q' : List V → Hp → Prop} (h : LA g K W m σ H Q) (q : ∀ v H1, Q v H1 → Q' v H1) : LA g K W m σ H Q' := by
  obtain ⟨τ, S, A, h⟩ := h
  exact ⟨τ, S, A, h.mono fun _ _ _ _ _ _ z v rv => q _ _ (z v rv)⟩

/-! ### displays -/
def mTup (ma : DS → Res (List RV)) : DS → Res RV := mFast ma fun ds τ => if ds.length ≤ bigN then .ok (.dat (.tup ds)) τ else .stuck
def mLst (ma : DS → Res (List RV)) : DS → Res RV := mFast ma fun ds τ => if ds.length ≤ bigN then .ok (.fr (.lst ds)) τ else .stuck
theorem fin_if {K : PySem.W.Frag} {α : Type} {c : Prop} [Decidable c] {σ : St} {τ : DS} {H S : Hp} {r : Res α} {post : DS → α → Hp → Hp → Prop} (h : FinP g K W σ τ H S (if c then r else .stuck) post) : c ∧ FinP g K W σ τ H S r post := by
  by_cases hc : c
  · rw [if_pos hc] at h; exact ⟨hc, h⟩
  · rw [if_neg hc] at h; exact h.elim
theorem de_tup {k} (ha : DA X g W es ma) : DE X g W (.Tuple es k pos) (mTup ma) := by
  refine ⟨PE.imp (pe_tup ha.pa) fun σ H Q h => (LE.fast h).mono fun vs H1 ⟨τ, S, ds, A, al, rl, h1⟩ => ?_⟩
  obtain ⟨hl, h2⟩ := fin_if h1
  refine ⟨by rw [rl.length]; exact Nat.le_trans hl bigN_le, fun p hp => ?_⟩
  exact EndV.tup (endV_fin (o := some _) al h2) A rl p hp
theorem de_lst (ha : DA X g W es ma) : DE X g W (.List es pos) (mLst ma) := by
  refine ⟨PE.imp (pe_lst ha.pa) fun σ H Q h => (LE.fast h).mono fun vs H1 ⟨τ, S, ds, A, al, rl, h1⟩ => ?_⟩
  obtain ⟨hl, h2⟩ := fin_if h1
  refine ⟨by rw [rl.length]; exact Nat.le_trans hl bigN_le, fun p hp => ?_⟩
  exact EndV.lst (endV_fin (o := some _) al h2) A rl p hp
end

/-! ### statements -/
inductive SRes where
  | nx (τ : DS) | bk (τ : DS) | ct (τ : DS) | rt (r : RV) (τ : DS) | err (c : Nat) (τ : DS) | stuck
def SRes.then (r : SRes) (f : DS → SRes) : SRes := match r with
  | .nx τ => f τ
  | r => r
def Res.toS {α : Type} (r : Res α) (f : α → DS → SRes) : SRes := match r with
  | .ok a τ => f a τ
  | .err c τ => .err c τ
  | .stuck => .stuck
/-- the first slots keep their values -/
def Pr (k : Nat → Bool) (σ σ' : St) : Prop := σ'.length = σ.length ∧ ∀ i, k i = true → σ'[i]? = σ[i]?
theorem Pr.refl {k : Nat → Bool} {σ : St} : Pr k σ σ := ⟨rfl, fun _ _ => rfl⟩
theorem Pr.trans {k : Nat → Bool} {σ σ1 σ2 : St} (a : Pr k σ σ1) (b : Pr k σ1 σ2) : Pr k σ σ2 := ⟨b.1.trans a.1, fun i h => (b.2 i h).trans (a.2 i h)⟩
theorem Pr.set {k : Nat → Bool} {i : Nat} {σ : St} {x : Option V} (h : k i = false) : Pr k σ (σ.set i x) := ⟨by simp, fun j hj => by
  rw [List.getElem?_set_ne (fun z => by rw [← z, h] at hj; cases hj)]⟩
/-- what is handed back: data, or a new object (or one of this frame's own) -/
inductive RetV (g : Gm) (K : PySem.W.Frag) (σ0 : St) (τ0 : DS) (H0 : Hp) (σ : St) (τ : DS) (H S : Hp) : V → RV → Prop
  | dat {v : V} {d : D} : Rep g K S v d → RetV g K σ0 τ0 H0 σ τ H S v (.dat d)
  | fr {p : Addr} {o : HO} {c : Cn} : (Own σ0 τ0 p ∨ H0 p = none) → H p = some o → S p = none → ¬ Own σ τ p → RepC g K S o c → RetV g K σ0 τ0 H0 σ τ H S (.ref p) (.fr c)
def FinS (g : Gm) (K : PySem.W.Frag) (W : WX) (k : Nat → Bool) (σ : St) (τ : DS) (H S : Hp) (r : SRes) (D : Ends) : Prop := match r with
  | .nx τ' => ∀ σ' H' S', Abs g K σ' H' τ' S' → Ext σ τ H S σ' τ' H' S' → Pr k σ σ' → D.nx σ' H'
  | .bk τ' => ∀ σ' H' S', Abs g K σ' H' τ' S' → Ext σ τ H S σ' τ' H' S' → Pr k σ σ' → D.bk σ' H'
  | .ct τ' => ∀ σ' H' S', Abs g K σ' H' τ' S' → Ext σ τ H S σ' τ' H' S' → Pr k σ σ' → D.ct σ' H'
  | .rt r τ' => ∀ σ' v H' S', Abs g K σ' H' τ' S' → Ext σ τ H S σ' τ' H' S' → Pr k σ σ' → RetV g K σ τ H σ' τ' H' S' v r → D.rt v H'
  | .err c τ' => ∀ σ' H' S', Abs g K σ' H' τ' S' → Ext σ τ H S σ' τ' H' S' → Pr k σ σ' → W (.ref (g c)) none σ' H'
  | .stuck => False
section
variable {g : Gm} {K : PySem.W.Frag} {W : WX} {k : Nat → Bool} {σ σ1 : St} {τ τ1 : DS} {H S H1 S1 : Hp} {D D' : Ends}
theorem FinS.ext {r : SRes} (h : FinS g K W k σ τ H S r D) (e : Ext σ τ H S σ1 τ1 H1 S1) (p : Pr k σ σ1) : FinS g K W k σ1 τ1 H1 S1 r D := by
  cases r with
  | nx τ' => exact fun σ' H' S' A f q => h σ' H' S' A (e.trans f) (p.trans q)
  | bk τ' => exact fun σ' H' S' A f q => h σ' H' S' A (e.trans f) (p.trans q)
  | ct τ' => exact fun σ' H' S' A f q => h σ' H' S' A (e.trans f) (p.trans q)
  | err c τ' => exact fun σ' H' S' A f q => h σ' H' S' A (e.trans f) (p.trans q)
  | rt r τ' =>
    refine fun σ' v H' S' A f q x => h σ' v H' S' A (e.trans f) (p.trans q) ?_
    cases x with
    | dat r => exact .dat r
    | fr z hh n no r =>
      refine .fr ?_ hh n no r
      rcases z with z | z
      · exact e.ow _ z
      · exact .inr (e.al _ z)
  | stuck => exact h
theorem FinS.then {r : SRes} {f : DS → SRes} (h : FinS g K W k σ τ H S (r.then f) D) : FinS g K W k σ τ H S r { D with nx := fun σ1 H1 => ∃ τ1 S1, Abs g K σ1 H1 τ1 S1 ∧ FinS g K W k σ1 τ1 H1 S1 (f τ1) D } := by
  cases r with
  | nx τ' => exact fun σ' H' S' A e p => ⟨τ', S', A, FinS.ext (show FinS g K W k σ τ H S (f τ') D from h) e p⟩
  | bk τ' => exact h
  | ct τ' => exact h
  | err c τ' => exact h
  | rt r τ' => exact h
  | stuck => exact h
/-- an expression's result, then a statement's -/
theorem FinS.toS {α : Type} {r : Res α} {f : α → DS → SRes} (h : FinS g K W k σ τ H S (r.toS f) D) : FinP g K W σ τ H S r fun τ1 a H1 S1 => FinS g K W k σ τ1 H1 S1 (f a τ1) D := by
  cases r with
  | ok a τ' => exact fun H' S' A e => FinS.ext (show FinS g K W k σ τ H S (f a τ') D from h) e Pr.refl
  | err c τ' => exact fun H' S' A e => h σ H' S' A e Pr.refl
  | stuck => exact h
theorem FinS.mono {r : SRes} (h : FinS g K W k σ τ H S r D) (n : ∀ σ' H', D.nx σ' H' → D'.nx σ' H') (b : ∀ σ' H', D.bk σ' H' → D'.bk σ' H') (c : ∀ σ' H', D.ct σ' H' → D'.ct σ' H') (t : ∀ v H', D.rt v H' → D'.rt v H') : FinS g K W k σ τ H S r D' := by
  cases r with
  | nx τ' => exact fun σ' H' S' A e p => n _ _ (h σ' H' S' A e p)
  | bk τ' => exact fun σ' H' S' A e p => b _ _ (h σ' H' S' A e p)
  | ct τ' => exact fun σ' H' S' A e p => c _ _ (h σ' H' S' A e p)
  | err c τ' => exact h
  | rt r τ' => exact fun σ' v H' S' A e p x => t _ _ (h σ' v H' S' A e p x)
  | stuck => exact h
theorem FinS.here (A : Abs g K σ H τ S) (h : FinS g K W k σ τ H S (.nx τ) D) : D.nx σ H := h σ H S A .refl .refl
end
def LS (g : Gm) (K : PySem.W.Frag) (W : WX) (k : Nat → Bool) (m : DS → SRes) : TS := fun D σ H => ∃ τ S, Abs g K σ H τ S ∧ FinS g K W k σ τ H S (m τ) D
structure DSt (X : Cx) (g : Gm) (W : WX) (k : Nat → Bool) (st : Stmt) (m : DS → SRes) : Prop where
  ps : PS X st (LS g X.K W k m)
structure DSs (X : Cx) (g : Gm) (W : WX) (k : Nat → Bool) (st : List Stmt) (m : DS → SRes) : Prop where
  ps : PSs X st (LS g X.K W k m)
theorem PS.imp {X : Cx} {e : Stmt} {t t' : TS} (h : PS X e t) (i : ∀ D σ H, t' D σ H → t D σ H) : PS X e t' := ⟨fun pins s σ H Q I q => h.run pins s σ H Q I (i _ _ _ q)⟩
theorem PSs.imp {X : Cx} {e : List Stmt} {t t' : TS} (h : PSs X e t) (i : ∀ D σ H, t' D σ H → t D σ H) : PSs X e t' := ⟨fun pins s σ H Q I q => h.run pins s σ H Q I (i _ _ _ q)⟩

section
variable {X : Cx} {g : Gm} {W : WX} {k : Nat → Bool} {st : Stmt} {rest : List Stmt} {ms mr : DS → SRes} {e : Expr} {me : DS → Res RV} {pos : Pos}
def mSkip : DS → SRes := fun τ => .nx τ
def mSeq (a b : DS → SRes) : DS → SRes := fun τ => (a τ).then b
def mNever : DS → SRes := fun _ => .stuck
theorem ds_nil : DSs X g W k [] mSkip := ⟨PSs.imp pss_nil fun _ _ _ ⟨_, _, A, h⟩ => FinS.here A h⟩
theorem ds_cons (h1 : DSt X g W k st ms) (h2 : DSs X g W k rest mr) : DSs X g W k (st :: rest) (mSeq ms mr) :=
  ⟨PSs.imp (pss_cons h1.ps h2.ps) fun _ _ _ ⟨τ, S, A, h⟩ => ⟨τ, S, A, (FinS.then h).mono (fun _ _ q => q) (fun _ _ q => q) (fun _ _ q => q) fun _ _ q => q⟩⟩
theorem ds_one (h1 : DSt X g W k st ms) : DSs X g W k [st] ms := ⟨pss_one h1.ps⟩
theorem ds_never : DSt X g W k st mNever := ⟨PS.imp ps_never fun _ _ _ ⟨_, _, _, h⟩ => h⟩
theorem dss_never {sts : List Stmt} : DSs X g W k sts mNever := ⟨PSs.imp pss_never fun _ _ _ ⟨_, _, _, h⟩ => h⟩
theorem ds_pass : DSt X g W k (.Pass pos) mSkip := ⟨PS.imp ps_pass fun _ _ _ ⟨_, _, A, h⟩ => FinS.here A h⟩
def mBreak : DS → SRes := fun τ => .bk τ
def mCont : DS → SRes := fun τ => .ct τ
theorem ds_break : DSt X g W k (.Break pos) mBreak := ⟨PS.imp ps_break fun _ σ H ⟨_, S, A, h⟩ => h σ H S A .refl .refl⟩
theorem ds_continue : DSt X g W k (.Continue pos) mCont := ⟨PS.imp ps_continue fun _ σ H ⟨_, S, A, h⟩ => h σ H S A .refl .refl⟩
/-- an expression, dropped -/
def mDrop (me : DS → Res RV) : DS → SRes := fun τ => (me τ).toS fun _ τ1 => .nx τ1
theorem ds_expr (he : DE X g W e me) (hs : swapsWith e none pos.line X.env = pure false := by rfl) : DSt X g W k (.Expr e pos) (mDrop me) :=
  ⟨PS.imp (ps_expr he.pe hs) fun _ _ _ ⟨τ, S, A, h⟩ => ⟨τ, S, A, (FinS.toS h).mono fun _ _ _ _ A1 _ q _ _ => FinS.here A1 q⟩⟩
/-- return -/
def retR (r : RV) (τ : DS) : SRes := match r with
  | .dat d => .rt (.dat d) τ
  | .fr c => .rt (.fr c) τ
  | .slot i => match τ[i]? with
    | some (.own c) => .rt (.fr c) (τ.set i .emp)
    | some (.dat d) => .rt (.dat d) τ
    | _ => .stuck
def mRet (me : DS → Res RV) : DS → SRes := fun τ => (me τ).toS retR
theorem Abs.drop {K : PySem.W.Frag} {σ : St} {τ : DS} {H S : Hp} (A : Abs g K σ H τ S) (i : Nat) : Abs g K σ H (τ.set i .emp) S ∧ Ext σ τ H S σ (τ.set i .emp) H S := by
  have get : ∀ {j : Nat} {x : SV}, x ≠ .emp → (τ.set i SV.emp)[j]? = some x → τ[j]? = some x ∧ i ≠ j := fun {j x} hx e => by
    by_cases hj : i = j
    · subst hj
      by_cases hl : i < τ.length
      · rw [List.getElem?_set_self hl] at e; cases e; exact absurd rfl hx
      · rw [List.getElem?_eq_none (by simpa using hl)] at e; cases e
    · rw [List.getElem?_set_ne hj] at e; exact ⟨e, hj⟩
  refine ⟨⟨A.le, by simpa using A.len, fun j d e => A.dat j d (get (by simp) e).1, fun j c e => A.own j c (get (by simp) e).1, fun j l c c' e1 e2 => A.inj j l c c' (get (by simp) e1).1 (get (by simp) e2).1⟩,
    Same.refl _, fun _ _ h n _ => ⟨h, n⟩, fun a ⟨j, c, e1, e2⟩ => .inl ⟨j, c, (get (by simp) e1).1, e2⟩, fun _ h => h⟩
theorem ds_ret (he : DE X g W e me) : DSt X g W k (.Return (some e) pos) (mRet me) := by
  refine ⟨PS.imp (ps_ret he.pe) fun D σ H ⟨τ, S, A, h⟩ => ⟨τ, S, A, ?_⟩⟩
  revert h
  unfold mRet
  generalize me τ = r
  intro h
  cases r with
  | stuck => exact h
  | err c τ1 => exact fun H1 S1 A1 e1 => h σ H1 S1 A1 e1 .refl
  | ok r τ1 =>
    intro H1 S1 A1 e1 v rv
    have h : FinS g X.K W k σ τ H S (retR r τ1) D := h
    cases rv with
    | dat rd => exact h σ v H1 S1 A1 e1 .refl (.dat rd)
    | fr h0 hp n no rc => exact h σ _ H1 S1 A1 e1 .refl (.fr (.inr h0) hp n no rc)
    | @slot i _ hs =>
      unfold retR at h
      dsimp only at h
      cases q : τ1[i]? with
      | none => rw [q] at h; exact h.elim
      | some sv =>
        rw [q] at h
        cases sv with
        | emp => exact h.elim
        | dat d =>
          obtain ⟨w, e2, r⟩ := A1.dat i d q
          rw [hs] at e2; cases e2
          exact h σ v H1 S1 A1 e1 .refl (.dat r)
        | own c =>
          obtain ⟨a, o, e2, h2, n2, r⟩ := A1.own i c q
          rw [hs] at e2; cases e2
          obtain ⟨A2, e3⟩ := A1.drop i
          refine h σ _ H1 S1 A2 (e1.trans e3) .refl (.fr (e1.ow a ⟨i, c, q, hs⟩) h2 n2 (fun ⟨j, c', z1, z2⟩ => ?_) r)
          by_cases hj : i = j
          · subst hj; rw [List.getElem?_set_self (List.getElem?_eq_some_iff.mp q).1] at z1; cases z1
          · rw [List.getElem?_set_ne hj] at z1
            exact hj (A1.inj i j c c' q z1 (hs.trans z2.symm))
def mRetN : DS → SRes := fun τ => .rt (.dat .non) τ
theorem ds_retN : DSt X g W k (.Return none pos) mRetN := ⟨PS.imp ps_retN fun _ σ H ⟨_, S, A, h⟩ => h σ .non H S A .refl .refl (.dat .non)⟩
def mIfS (t : DS → Res Bool) (a b : DS → SRes) : DS → SRes := fun τ => (t τ).toS fun c τ1 => if c = true then a τ1 else b τ1
theorem ds_if {c : Expr} {a b : List Stmt} {tc : DS → Res Bool} {ma mb : DS → SRes} (hc : DT X g W c tc) (ha : DSs X g W k a ma) (hb : DSs X g W k b mb) : DSt X g W k (.If c a b pos) (mIfS tc ma mb) := by
  refine ⟨PS.imp (ps_if hc.pt ha.ps hb.ps) fun D σ H ⟨τ, S, A, h⟩ => ⟨τ, S, A, (FinS.toS h).mono fun τ1 d H1 S1 A1 _ q => ?_⟩⟩
  cases d with
  | true => exact iteT ⟨τ1, S1, A1, q⟩
  | false => exact iteF ⟨τ1, S1, A1, q⟩

/-! ### stores to names -/
theorem set_get {α : Type} {l : List α} {i j : Nat} {x y : α} (e : (l.set i x)[j]? = some y) : (i = j ∧ x = y) ∨ (i ≠ j ∧ l[j]? = some y) := by
  by_cases hj : i = j
  · subst hj
    by_cases hl : i < l.length
    · rw [List.getElem?_set_self hl] at e; exact .inl ⟨rfl, Option.some.inj e⟩
    · rw [List.getElem?_eq_none (by simpa using hl)] at e; cases e
  · rw [List.getElem?_set_ne hj] at e; exact .inr ⟨hj, e⟩
theorem Abs.set {K : PySem.W.Frag} {σ : St} {τ : DS} {H S : Hp} {v : V} {d : D} (A : Abs g K σ H τ S) (i : Nat) (r : Rep g K S v d) : Abs g K (σ.set i (some v)) H (τ.set i (.dat d)) S ∧ Ext σ τ H S (σ.set i (some v)) (τ.set i (.dat d)) H S := by
  have keep : ∀ {j : Nat} {c : Cn}, (τ.set i (SV.dat d))[j]? = some (.own c) → τ[j]? = some (.own c) ∧ (σ.set i (some v))[j]? = σ[j]? := fun {j c} e => by
    rcases set_get e with ⟨_, z⟩ | ⟨hj, z⟩
    · cases z
    · exact ⟨z, List.getElem?_set_ne hj⟩
  refine ⟨⟨A.le, by simpa using A.len, fun j d' e => ?_, fun j c e => ?_, fun j l c c' e1 e2 e3 => ?_⟩, Same.refl _, fun _ _ h n _ => ⟨h, n⟩, fun a ⟨j, c, e1, e2⟩ => ?_, fun _ h => h⟩
  · rcases set_get e with ⟨hj, z⟩ | ⟨hj, z⟩
    · cases z; subst hj
      have hl : i < σ.length := by
        rw [A.len]
        have := (List.getElem?_eq_some_iff.mp e).1
        simpa using this
      exact ⟨v, List.getElem?_set_self hl, r⟩
    · rw [List.getElem?_set_ne hj]; exact A.dat j d' z
  · obtain ⟨z, e1⟩ := keep e
    rw [e1]; exact A.own j c z
  · obtain ⟨z1, q1⟩ := keep e1
    obtain ⟨z2, q2⟩ := keep e2
    rw [q1, q2] at e3
    exact A.inj j l c c' z1 z2 e3
  · obtain ⟨z, q⟩ := keep e1
    rw [q] at e2
    exact .inl ⟨j, c, z, e2⟩
theorem Abs.setOwn {K : PySem.W.Frag} {σ : St} {τ : DS} {H S : Hp} {p : Addr} {o : HO} {c : Cn} (A : Abs g K σ H τ S) (i : Nat) (hp : H p = some o) (n : S p = none) (no : ¬ Own σ τ p) (r : RepC g K S o c) :
    Abs g K (σ.set i (some (.ref p))) H (τ.set i (.own c)) S ∧ (∀ a, Own (σ.set i (some (.ref p))) (τ.set i (.own c)) a → Own σ τ a ∨ a = p) := by
  have hl : ∀ {x : SV}, (τ.set i (SV.own c))[i]? = some x → i < σ.length := fun {x} e => by
    rw [A.len]
    have := (List.getElem?_eq_some_iff.mp e).1
    simpa using this
  refine ⟨⟨A.le, by simpa using A.len, fun j d' e => ?_, fun j c' e => ?_, fun j l c1 c2 e1 e2 e3 => ?_⟩, fun a ⟨j, c', e1, e2⟩ => ?_⟩
  · rcases set_get e with ⟨hj, z⟩ | ⟨hj, z⟩
    · cases z
    · rw [List.getElem?_set_ne hj]; exact A.dat j d' z
  · rcases set_get e with ⟨hj, z⟩ | ⟨hj, z⟩
    · cases z; subst hj
      exact ⟨p, o, List.getElem?_set_self (hl e), hp, n, r⟩
    · rw [List.getElem?_set_ne hj]; exact A.own j c' z
  · rcases set_get e1 with ⟨h1, z1⟩ | ⟨h1, z1⟩ <;> rcases set_get e2 with ⟨h2, z2⟩ | ⟨h2, z2⟩
    · exact h1.symm.trans h2
    · subst h1
      rw [List.getElem?_set_self (hl e1), List.getElem?_set_ne h2] at e3
      exact absurd ⟨l, c2, z2, e3.symm⟩ no
    · subst h2
      rw [List.getElem?_set_ne h1, List.getElem?_set_self (hl e2)] at e3
      exact absurd ⟨j, c1, z1, e3⟩ no
    · rw [List.getElem?_set_ne h1, List.getElem?_set_ne h2] at e3
      exact A.inj j l c1 c2 z1 z2 e3
  · rcases set_get e1 with ⟨h1, z1⟩ | ⟨h1, z1⟩
    · subst h1
      rw [List.getElem?_set_self (hl e1)] at e2
      cases e2
      exact .inr rfl
    · rw [List.getElem?_set_ne h1] at e2
      exact .inl ⟨j, c', z1, e2⟩
/-- x = a value -/
def putR (i : Nat) (r : RV) (τ : DS) : SRes := match r with
  | .dat d => .nx (τ.set i (.dat d))
  | .fr c => .nx (τ.set i (.own c))
  | .slot j => (force (.slot j) τ).toS fun d τ1 => .nx (τ1.set i (.dat d))
def mSet (i : Nat) (me : DS → Res RV) : DS → SRes := fun τ => (me τ).toS (putR i)
theorem ext_setOwn {K : PySem.W.Frag} {σ σ1 : St} {τ τ1 : DS} {H S H1 S1 : Hp} {p : Addr} {c : Cn} {i : Nat} (e : Ext σ τ H S σ1 τ1 H1 S1) (h0 : H p = none) (f : ∀ a, Own (σ1.set i (some (.ref p))) (τ1.set i (.own c)) a → Own σ1 τ1 a ∨ a = p) :
    Ext σ τ H S (σ1.set i (some (.ref p))) (τ1.set i (.own c)) H1 S1 :=
  ⟨e.st, e.pv, fun a z => by
    rcases f a z with z | z
    · exact e.ow a z
    · subst z; exact .inr h0, e.al⟩
theorem put_ok {K : PySem.W.Frag} {D : Ends} {i : Nat} {r : RV} {v : V} {σ : St} {τ τ1 : DS} {H S H1 S1 : Hp} (hk : k i = false) (A1 : Abs g K σ H1 τ1 S1) (e1 : Ext σ τ H S σ τ1 H1 S1) (rv : RepV g K σ τ1 H H1 S1 v r) (h : FinS g K W k σ τ H S (putR i r τ1) D) : D.nx (σ.set i (some v)) H1 := by
  cases rv with
  | dat rd =>
    obtain ⟨A2, e2⟩ := A1.set i rd
    exact h _ _ _ A2 (e1.trans e2) (Pr.set hk)
  | fr h0 hp n no rc =>
    obtain ⟨A2, f⟩ := A1.setOwn i hp n no rc
    exact h _ _ _ A2 (ext_setOwn (K := K) e1 h0 f) (Pr.set hk)
  | slot hs =>
    rename_i j
    unfold putR at h
    dsimp only at h
    unfold DL.force at h
    dsimp only at h
    cases q : τ1[j]? with
    | none => rw [q] at h; exact h.elim
    | some sv =>
      rw [q] at h
      cases sv with
      | emp => exact h.elim
      | dat d =>
        obtain ⟨w, e2, r⟩ := A1.dat j d q
        rw [hs] at e2; cases e2
        obtain ⟨A2, e2⟩ := A1.set i r
        exact h _ _ _ A2 (e1.trans e2) (Pr.set hk)
      | own c =>
        obtain ⟨a, o, e2, h2, n2, r⟩ := A1.own j c q
        rw [hs] at e2; cases e2
        obtain ⟨A3, e3⟩ := A1.freezeSlot q hs h2 n2 r
        obtain ⟨A2, e2⟩ := A3.set i ((r.mono (Same.upd_new n2)).rep (a := a) upd_same)
        exact h _ _ _ A2 ((e1.trans e3).trans e2) (Pr.set hk)
theorem ds_set (i : Nat) {x : Str} {pos' : Pos} (hN : X.N.Nodup) (he : DE X g W e me) (hk : k i = false := by rfl) (hi : X.N[i]? = some x := by rfl) (hx : Loc X.env.scope x := by first | exact Or.inl rfl | exact Or.inr rfl) (hs : swapsWith e (some (.Name x pos')) pos.line X.env = pure false := by rfl)
    (hf : X.fn x = true ∨ X.env.scope.names.lookup x = some .local := by first | exact .inl rfl | exact .inr rfl | assumption) : DSt X g W k (.Assign [.Name x pos'] e pos) (mSet i me) :=
  ⟨PS.imp (ps_set hN hi hx he.pe hs hf) fun _ _ _ ⟨τ, S, A, h⟩ => ⟨τ, S, A, by
    revert h
    unfold mSet
    generalize me τ = r
    intro h
    cases r with
    | stuck => exact h
    | err c τ1 => exact fun H1 S1 A1 e1 => h _ H1 S1 A1 e1 .refl
    | ok r τ1 => exact fun H1 S1 A1 e1 v rv => put_ok hk A1 e1 rv h⟩⟩
end
end DL

/-! DL4: targets, for, while, what a def promises, calls, raise. -/
namespace DL
open PySem PySem.Spec PyProof.Rows L2

/-! ### targets -/
def LG (g : Gm) (K : PySem.W.Frag) (k : Nat → Bool) (mt : D → DS → Option DS) : TG := fun v σ H R => ∃ τ S d, Abs g K σ H τ S ∧ Rep g K S v d ∧ match mt d τ with
  | some τ' => ∀ σ', Abs g K σ' H τ' S → Ext σ τ H S σ' τ' H S → Pr k σ σ' → R σ' H
  | none => False
def LGs (g : Gm) (K : PySem.W.Frag) (k : Nat → Bool) (mt : List D → DS → Option DS) : TGs := fun vs σ H R => ∃ τ S ds, Abs g K σ H τ S ∧ RepL g K S vs ds ∧ match mt ds τ with
  | some τ' => ∀ σ', Abs g K σ' H τ' S → Ext σ τ H S σ' τ' H S → Pr k σ σ' → R σ' H
  | none => False
structure DG (X : Cx) (g : Gm) (k : Nat → Bool) (tg : Expr) (mt : D → DS → Option DS) : Prop where
  pg : PG X tg (LG g X.K k mt)
structure DGs (X : Cx) (g : Gm) (k : Nat → Bool) (tgs : List Expr) (mt : List D → DS → Option DS) : Prop where
  pgs : PGs X tgs (LGs g X.K k mt)
theorem PG.imp {X : Cx} {e : Expr} {t t' : TG} (h : PG X e t) (i : ∀ v σ H R, t' v σ H R → t v σ H R) : PG X e t' := ⟨fun pins s σ H v u Q I r q => h.run pins s σ H v u Q I r (i _ _ _ _ q)⟩
theorem PGs.imp {X : Cx} {e : List Expr} {t t' : TGs} (h : PGs X e t) (i : ∀ v σ H R, t' v σ H R → t v σ H R) : PGs X e t' := ⟨fun pins s σ H v u Q I r q => h.run pins s σ H v u Q I r (i _ _ _ _ q)⟩
def tgN (i : Nat) : D → DS → Option DS := fun d τ => some (τ.set i (.dat d))
def tgNil : List D → DS → Option DS := fun ds τ => match ds with
  | [] => some τ
  | _ => none
def tgCons (a : D → DS → Option DS) (b : List D → DS → Option DS) : List D → DS → Option DS := fun ds τ => match ds with
  | d :: ds => (a d τ).bind (b ds)
  | [] => none
def tgT (n : Nat) (b : List D → DS → Option DS) : D → DS → Option DS := fun d τ => match d with
  | .tup ds => if ds.length = n then b ds τ else none
  | _ => none
section
variable {X : Cx} {g : Gm} {W : WX} {k : Nat → Bool} {pos : Pos}
theorem dg_name (i : Nat) {x : Str} (hN : X.N.Nodup) (hk : k i = false := by rfl) (hi : X.N[i]? = some x := by rfl) (hx : Loc X.env.scope x := by first | exact Or.inl rfl | exact Or.inr rfl)
    (hf : X.fn x = true ∨ X.env.scope.names.lookup x = some .local := by first | exact .inl rfl | exact .inr rfl | assumption) : DG X g k (.Name x pos) (tgN i) := by
  refine ⟨PG.imp (pg_name hN hi hx hf) fun v σ H R ⟨τ, S, d, A, r, h⟩ => ?_⟩
  obtain ⟨A2, e2⟩ := A.set i r
  exact h _ A2 e2 (Pr.set hk)
theorem dgs_nil : DGs X g k [] tgNil := by
  refine ⟨PGs.imp pgs_nil fun vs σ H R ⟨τ, S, ds, A, r, h⟩ => ?_⟩
  cases r with
  | nil => exact ⟨rfl, h σ A .refl .refl⟩
  | cons _ _ => exact h.elim
theorem dgs_cons {e : Expr} {es : List Expr} {a : D → DS → Option DS} {b : List D → DS → Option DS} (h1 : DG X g k e a) (h2 : DGs X g k es b)
    (hs : (assignEach (e :: es) X.env).map (·.2) = assign e X.env :: (assignEach es X.env).map (·.2) := by rfl) : DGs X g k (e :: es) (tgCons a b) := by
  refine ⟨PGs.imp (pgs_cons h1.pg h2.pgs hs) fun vs σ H R ⟨τ, S, ds, A, r, h⟩ => ?_⟩
  cases r with
  | nil => exact h.elim
  | @cons v vs d ds rv rs =>
    refine ⟨v, vs, rfl, τ, S, d, A, rv, ?_⟩
    unfold tgCons at h
    dsimp only at h
    cases q : a d τ with
    | none => rw [q] at h; exact h.elim
    | some τ1 =>
      rw [q] at h
      refine fun σ1 A1 e1 p1 => ⟨τ1, S, ds, A1, rs, ?_⟩
      dsimp only [Option.bind_some] at h
      cases q2 : b ds τ1 with
      | none => rw [q2] at h; exact h.elim
      | some τ2 =>
        rw [q2] at h
        exact fun σ2 A2 e2 p2 => h σ2 A2 (e1.trans e2) (p1.trans p2)
theorem dg_tup {es : List Expr} {j n : Nat} {b : List D → DS → Option DS} (hc : X.calm = true) (h : DGs X g k es b)
    (hn : (assignEach es X.env).length = n := by rfl) (hst : (assignEach es X.env).findIdx? (·.1) = none := by rfl) : DG X g k (.Tuple es j pos) (tgT n b) := by
  refine ⟨PG.imp (pg_tup hc h.pgs hn hst) fun v σ H R ⟨τ, S, d, A, r, h⟩ => ?_⟩
  cases r with
  | @tup a vs ds hs rl =>
    unfold tgT at h
    dsimp only at h
    by_cases hl : ds.length = n
    · rw [if_pos hl] at h
      exact ⟨a, vs, rfl, Same.seqT A.le hs, rl.length.trans hl, τ, S, ds, A, rl, h⟩
    · rw [if_neg hl] at h; exact h.elim
  | _ => exact h.elim
/-- target = value -/
def mAsg (mt : D → DS → Option DS) (me : DS → Res RV) : DS → SRes := fun τ => ((me τ).bind force).toS fun d τ1 => match mt d τ1 with
  | some τ2 => .nx τ2
  | none => .stuck
theorem asg_end {K : PySem.W.Frag} {mt : D → DS → Option DS} {σ : St} {τ : DS} {H S : Hp} {d : D} {v : V} {D : Ends} (A : Abs g K σ H τ S) (r : Rep g K S v d) (h : FinS g K W k σ τ H S (match mt d τ with | some τ2 => .nx τ2 | none => .stuck) D) :
    LG g K k mt v σ H D.nx := by
  refine ⟨τ, S, d, A, r, ?_⟩
  cases q : mt d τ with
  | none => rw [q] at h; exact h
  | some τ2 => rw [q] at h; exact fun σ' A2 e2 p2 => h σ' H S A2 e2 p2
theorem ds_asg {tg e : Expr} {me : DS → Res RV} {mt : D → DS → Option DS} (he : DE X g W e me) (hg : DG X g k tg mt) (hs : swapsWithSole [tg] e pos.line X.env = pure false := by rfl) (hw : swappedStores [tg] e X.env = pure none := by rfl)
    (h1 : (assignEach [tg] X.env).map (·.2) = [assign tg X.env] := by rfl) : DSt X g W k (.Assign [tg] e pos) (mAsg mt me) := by
  refine ⟨PS.imp (ps_asg he.pe hg.pg hs hw h1) fun D σ H ⟨τ, S, A, h⟩ => ⟨τ, S, A, ?_⟩⟩
  revert h
  unfold mAsg
  generalize me τ = r
  intro h
  cases r with
  | stuck => exact h
  | err c τ1 => exact fun H1 S1 A1 e1 => h _ H1 S1 A1 e1 .refl
  | ok r τ1 =>
    intro H1 S1 A1 e1 v rv
    have h2 := FinS.toS (r := DL.force r τ1) h
    have h3 : FinP g X.K W σ τ H S ((DL.force r τ1).bind fun d τ1 => .ok d τ1) (fun τ1 d H1 S1 => FinS g X.K W k σ τ1 H1 S1 (match mt d τ1 with | some τ2 => .nx τ2 | none => .stuck) D) := by
      revert h2
      generalize DL.force r τ1 = q
      intro h2
      cases q <;> exact h2
    obtain ⟨τ2, S2, d, A2, e2, rd, _, _, h4⟩ := FinP.force A1 e1 (.inl rv) h3
    exact asg_end A2 rd (h4 H1 S2 A2 e2)
end

theorem FinS.toS0 {g : Gm} {K : PySem.W.Frag} {W : WX} {k : Nat → Bool} {σ : St} {τ : DS} {H S : Hp} {D : Ends} {α : Type} {r : Res α} {f : α → DS → SRes} (h : FinS g K W k σ τ H S (r.toS f) D) : FinP g K W σ τ H S r fun τ1 a H1 S1 => FinS g K W k σ τ H S (f a τ1) D := by
  cases r with
  | ok a τ' => exact fun H' S' A e => h
  | err c τ' => exact fun H' S' A e => h σ H' S' A e Pr.refl
  | stuck => exact h
/-! ### a, b = x, y with plain names -/
def fixV (r : RV) (τ : DS) : Res SV := match r with
  | .dat d => .ok (.dat d) τ
  | .fr c => .ok (.own c) τ
  | .slot i => (force (.slot i) τ).bind fun d τ1 => .ok (.dat d) τ1
def mPar (i j : Nat) (ma : DS → Res (List RV)) : DS → SRes := fun τ => (ma τ).toS fun rs τ1 => match rs with
  | [r1, r2] => ((fixV r1 τ1).bind fun s1 τ2 => (fixV r2 τ2).bind fun s2 τ3 => .ok (s1, s2) τ3).toS fun p τ4 => .nx ((τ4.set i p.1).set j p.2)
  | _ => .stuck
/-- a value as a slot would hold it -/
inductive RepS (g : Gm) (K : PySem.W.Frag) (σ : St) (τ : DS) (H0 H S : Hp) : V → SV → Prop
  | dat {v : V} {d : D} : Rep g K S v d → RepS g K σ τ H0 H S v (.dat d)
  | own {p : Addr} {o : HO} {c : Cn} : H0 p = none → H p = some o → S p = none → ¬ Own σ τ p → RepC g K S o c → RepS g K σ τ H0 H S (.ref p) (.own c)
section
variable {g : Gm} {K : PySem.W.Frag} {W : WX} {α β : Type} {σ σ1 : St} {τ τ1 τ2 : DS} {H0 H S H1 S1 : Hp} {v : V}
theorem fix_ok {r : RV} {f : SV → DS → Res β} {post : DS → β → Hp → Hp → Prop} (A : Abs g K σ H τ S) (e : Ext σ τ1 H1 S1 σ τ H S) (rv : RepV g K σ τ H1 H S v r) (h : FinP g K W σ τ1 H1 S1 ((fixV r τ).bind f) post) :
    ∃ τ' S' sv, Abs g K σ H τ' S' ∧ Ext σ τ1 H1 S1 σ τ' H S' ∧ RepS g K σ τ' H1 H S' v sv ∧ ((∀ c, r ≠ .fr c) → ∃ d, sv = .dat d) ∧ (∀ u q, RepV g K σ τ H1 H S u q → RepV g K σ τ' H1 H S' u q) ∧ (∀ u q, RepS g K σ τ H1 H S u q → RepS g K σ τ' H1 H S' u q) ∧ FinP g K W σ τ1 H1 S1 (f sv τ') post := by
  cases rv with
  | dat r => exact ⟨τ, S, _, A, e, .dat r, fun _ => ⟨_, rfl⟩, fun _ _ x => x, fun _ _ x => x, h⟩
  | fr h0 hp n no r => exact ⟨τ, S, _, A, e, .own h0 hp n no r, fun z => absurd rfl (z _), fun _ _ x => x, fun _ _ x => x, h⟩
  | slot hs =>
    rename_i i
    unfold fixV at h
    dsimp only at h
    unfold DL.force at h
    dsimp only at h
    cases q : τ[i]? with
    | none => rw [q] at h; exact h.elim
    | some sv =>
      rw [q] at h
      cases sv with
      | emp => exact h.elim
      | dat d =>
        obtain ⟨w, e1, r⟩ := A.dat i d q
        rw [hs] at e1; cases e1
        exact ⟨τ, S, .dat d, A, e, .dat r, fun _ => ⟨_, rfl⟩, fun _ _ x => x, fun _ _ x => x, h⟩
      | own c =>
        obtain ⟨a, o, e1, h1, n1, r⟩ := A.own i c q
        rw [hs] at e1; cases e1
        obtain ⟨A', e'⟩ := A.freezeSlot q hs h1 n1 r
        have isOwn : Own σ τ a := ⟨i, c, q, hs⟩
        have sm : Same S (upd S a o) := Same.upd_new n1
        refine ⟨_, _, .dat c.d, A', e.trans e', .dat ((r.mono sm).rep upd_same), fun _ => ⟨_, rfl⟩, fun u q' x => ?_, fun u q' x => ?_, h⟩
        · cases x with
          | dat r => exact .dat (r.mono sm)
          | @fr p _ _ h0 h' n' no r =>
            have ne : p ≠ a := fun z => no (by rw [z]; exact isOwn)
            exact .fr h0 h' (by rw [upd_ne ne]; exact n') (fun z => no (own_sub z)) (r.mono sm)
          | slot h => exact .slot h
        · cases x with
          | dat r => exact .dat (r.mono sm)
          | @own p _ _ h0 h' n' no r =>
            have ne : p ≠ a := fun z => no (by rw [z]; exact isOwn)
            exact .own h0 h' (by rw [upd_ne ne]; exact n') (fun z => no (own_sub z)) (r.mono sm)
theorem Abs.setS (A : Abs g K σ H τ S) {H0 S0 : Hp} {σ0 : St} {τ0 : DS} (e : Ext σ0 τ0 H0 S0 σ τ H S) (i : Nat) {sv : SV} (x : RepS g K σ τ H0 H S v sv) : Abs g K (σ.set i (some v)) H (τ.set i sv) S ∧ Ext σ0 τ0 H0 S0 (σ.set i (some v)) (τ.set i sv) H S ∧
    (∀ u q, RepS g K σ τ H0 H S u q → ((∃ c, sv = .own c) → (∃ c, q = .own c) → u ≠ v) → RepS g K (σ.set i (some v)) (τ.set i sv) H0 H S u q) := by
  cases x with
  | dat r =>
    obtain ⟨A2, e2⟩ := A.set i r
    refine ⟨A2, e.trans e2, fun u q y _ => ?_⟩
    cases y with
    | dat r => exact .dat r
    | own h0 hp n no r =>
      refine .own h0 hp n (fun z => ?_) r
      rcases e2.ow _ z with z | z
      · exact no z
      · rw [hp] at z; cases z
  | own h0 hp n no r =>
    obtain ⟨A2, f⟩ := A.setOwn i hp n no r
    refine ⟨A2, ext_setOwn (K := K) e h0 f, fun u q y ne => ?_⟩
    cases y with
    | dat r => exact .dat r
    | own h0' hp' n' no' r' =>
      refine .own h0' hp' n' (fun z => ?_) r'
      rcases f _ z with z | z
      · exact no' z
      · exact ne ⟨_, rfl⟩ ⟨_, rfl⟩ (by rw [z])
end
section
variable {X : Cx} {g : Gm} {W : WX} {k : Nat → Bool} {pos : Pos}
theorem ds_par (i j : Nat) {x y : Str} {a b : Expr} {ma : DS → Res (List RV)} {px py pt : Pos} {kt k2 pt2} (hc : X.calm = true) (hN : X.N.Nodup) (ha : DA X g W [a, b] ma) (hki : k i = false := by rfl) (hkj : k j = false := by rfl) (hi : X.N[i]? = some x := by rfl) (hj : X.N[j]? = some y := by rfl) (hij : i ≠ j := by decide)
    (hx : X.env.scope.names.lookup x = some .local := by rfl) (hy : X.env.scope.names.lookup y = some .local := by rfl)
    (hw : swappedStores [.Tuple [.Name x px, .Name y py] kt pt] (.Tuple [a, b] k2 pt2) X.env = pure (some [x, y]) := by rfl)
    (hs : swapsWithSole [.Tuple [.Name x px, .Name y py] kt pt] (.Tuple [a, b] k2 pt2) pos.line X.env = pure false := by rfl) :
    DSt X g W k (.Assign [.Tuple [.Name x px, .Name y py] kt pt] (.Tuple [a, b] k2 pt2) pos) (mPar i j ma) := by
  refine ⟨PS.imp (ps_par hc hN hi hj hij hx hy ha.pa hw hs) fun D σ H ⟨τ, S, A, h⟩ => ⟨τ, S, A, ?_⟩⟩
  revert h
  unfold mPar
  generalize ma τ = r
  intro h
  cases r with
  | stuck => exact h
  | err c τ1 => exact fun H1 S1 A1 e1 => h _ H1 S1 A1 e1 .refl
  | ok rs τ1 =>
    intro H1 S1 A1 e1 vs rvs
    cases rvs with
    | nil => exact h.elim
    | @cons v1 _ r1 _ rv1 rvs ne =>
      cases rvs with
      | nil => exact h.elim
      | @cons v2 _ r2 _ rv2 rvs _ =>
        cases rvs with
        | cons _ _ _ => exact h.elim
        | nil =>
          have h2 := FinS.toS0 (g := g) (K := X.K) (r := (fixV r1 τ1).bind fun s1 τ2 => (fixV r2 τ2).bind fun s2 τ3 => Res.ok (s1, s2) τ3) h
          obtain ⟨τ2, S2, s1, A2, e2, x1, d1, mv, ms, h3⟩ := fix_ok A1 e1 rv1 h2
          obtain ⟨τ3, S3, s2, A3, e3, x2, d2, mv2, ms2, h4⟩ := fix_ok A2 e2 (mv _ _ rv2) h3
          have h5 := h4 H1 S3 A3 e3
          obtain ⟨A4, e4, k4⟩ := A3.setS e3 i (ms2 _ _ x1)
          obtain ⟨A5, e5, _⟩ := A4.setS e4 j (k4 _ _ x2 fun ⟨c, q⟩ ⟨c', q'⟩ => by
            have f1 : ∃ c, r1 = .fr c := Classical.byContradiction fun z => by
              obtain ⟨d, hd⟩ := d1 fun c hc => z ⟨c, hc⟩
              rw [hd] at q; cases q
            have f2 : ∃ c, r2 = .fr c := Classical.byContradiction fun z => by
              obtain ⟨d, hd⟩ := d2 fun c hc => z ⟨c, hc⟩
              rw [hd] at q'; cases q'
            obtain ⟨c1, f1⟩ := f1
            obtain ⟨c2, f2⟩ := f2
            exact ne c1 f1 v2 r2 (by simp) c2 f2)
          exact ⟨v1, v2, rfl, h5 _ _ _ A5 e5 ((Pr.set hki).trans (Pr.set hkj))⟩
end
end DL

/-! DL5: what is walked, for, while, what a def promises, calls, raise. -/
namespace DL
open PySem PySem.Spec PyProof.Rows L2

/-! ### what is walked -/
/-- the walk J hands out the items xs, where S0 stands -/
def ItOk (g : Gm) (K : PySem.W.Frag) (J : It) (S0 : Hp) (xs : List D) : Prop := ∀ i H S, Same S0 S → Same S H →
  (∀ d, xs[i]? = some d → J.go i H ∧ ∀ x H', J.yld i H x H' → ∃ S', Same S S' ∧ Same S' H' ∧ Same H H' ∧ Rep g K S' x d ∧ ∀ a, S a = none → H a ≠ none → S' a = none) ∧ (xs.length ≤ i → J.stop i H)
def LI (g : Gm) (K : PySem.W.Frag) (W : WX) (m : DS → Res (List D)) : TI := fun σ H R => ∃ τ S, Abs g K σ H τ S ∧ FinP g K W σ τ H S (m τ) fun _ xs H' S' => ∀ J, ItOk g K J S' xs → R J H'
structure DI (X : Cx) (g : Gm) (W : WX) (tg iter : Expr) (m : DS → Res (List D)) : Prop where
  pi : PI X tg iter (LI g X.K W m)
theorem PI.imp {X : Cx} {tg iter : Expr} {t t' : TI} (h : PI X tg iter t) (i : ∀ σ H R, t' σ H R → t σ H R) : PI X tg iter t' := ⟨fun pins s σ H R I q => h.run pins s σ H R I (i _ _ _ q)⟩
section
variable {g : Gm} {K : PySem.W.Frag} {W : WX} {α β : Type} {σ σ1 : St} {τ τ1 τ2 : DS} {H0 H S H1 S1 H' S' : Hp} {v : V} {J : It} {xs : List D}
theorem Same.of_le {a : Addr} (h : Same S H) (n : H a = none) : S a = none := by
  cases q : S a with
  | none => rfl
  | some o => have := h _ _ q; rw [n] at this; cases this
/-- the state behind an item that was handed out -/
theorem Abs.step (A : Abs g K σ H τ S) (h1 : Same S S') (h2 : Same S' H') (h3 : Same H H') (h4 : ∀ a, S a = none → H a ≠ none → S' a = none) : Abs g K σ H' τ S' ∧ Ext σ τ H S σ τ H' S' := by
  refine ⟨⟨h2, A.len, fun i d e => ?_, fun i c e => ?_, A.inj⟩, h1, fun a o e n _ => ⟨h3 _ _ e, h4 a n (by rw [e]; simp)⟩, fun _ h => .inl h, fun a e => h3.free e⟩
  · obtain ⟨v, e1, r⟩ := A.dat i d e
    exact ⟨v, e1, r.mono h1⟩
  · obtain ⟨a, o, e1, e2, n, r⟩ := A.own i c e
    exact ⟨a, o, e1, h3 _ _ e2, h4 a n (by rw [e2]; simp), r.mono h1⟩
theorem itok_list {a : Addr} {vs : List V} {ds : List D} (h : ∀ S, Same S1 S → SqL K S a vs) (r : RepL g K S1 vs ds) : ItOk g K (Itl K a) S1 ds := by
  intro i H S s1 s2
  have hs : SqL K H a vs := s2.seq (h S s1)
  refine ⟨fun d e => ?_, fun hl => ⟨vs, hs, by rw [r.length]; exact hl⟩⟩
  obtain ⟨v, e1, r1⟩ := r.get e
  refine ⟨⟨vs, v, hs, e1⟩, fun x H' y => ?_⟩
  obtain ⟨rfl, y⟩ := y
  have e2 := y vs hs
  rw [e1] at e2; cases e2
  exact ⟨S, Same.refl _, s2, Same.refl _, r1.mono s1, fun _ n _ => n⟩
theorem itok_tup {a : Addr} {vs : List V} {ds : List D} (h : ∀ S, Same S1 S → SqT K S a vs) (r : RepL g K S1 vs ds) : ItOk g K (Itt K a) S1 ds := by
  intro i H S s1 s2
  have hs : SqT K H a vs := Same.seqT s2 (h S s1)
  refine ⟨fun d e => ?_, fun hl => ⟨vs, hs, by rw [r.length]; exact hl⟩⟩
  obtain ⟨v, e1, r1⟩ := r.get e
  refine ⟨⟨vs, v, hs, e1⟩, fun x H' y => ?_⟩
  obtain ⟨rfl, y⟩ := y
  have e2 := y vs hs
  rw [e1] at e2; cases e2
  exact ⟨S, Same.refl _, s2, Same.refl _, r1.mono s1, fun _ n _ => n⟩
def iRow (lo : Int) (n : Nat) : List D := (List.range n).map fun (i : Nat) => D.int (lo + i)
theorem iRow_get {lo : Int} {n i : Nat} {d : D} : (iRow lo n)[i]? = some d ↔ i < n ∧ d = .int (lo + i) := by
  unfold iRow
  rw [List.getElem?_map]
  by_cases h : i < n
  · rw [List.getElem?_range h]
    simp [h, eq_comm]
  · rw [List.getElem?_eq_none (by simpa using h)]
    simp [h]
theorem itok_range {lo : Int} {n : Nat} : ItOk g K (Itr lo n) S1 (iRow lo n) := by
  intro i H S s1 s2
  refine ⟨fun d e => ?_, fun hl => show n ≤ i by simpa [iRow] using hl⟩
  obtain ⟨hi, rfl⟩ := iRow_get.mp e
  refine ⟨hi, fun x H' y => ?_⟩
  obtain ⟨rfl, rfl⟩ := y
  exact ⟨S, Same.refl _, s2, Same.refl _, .int _, fun _ n _ => n⟩
end

section
variable {X : Cx} {g : Gm} {W : WX} {k : Nat → Bool} {tg e : Expr} {me : DS → Res RV} {pos : Pos}
def itemsOf (d : D) (τ : DS) : Res (List D) := match d with
  | .lst ds => .ok ds τ
  | .rol ds => .ok ds τ
  | .tup ds => .ok ds τ
  | _ => .stuck
/-- a list or a tuple is walked -/
def mIter (me : DS → Res RV) : DS → Res (List D) := fun τ => ((me τ).bind force).bind itemsOf
theorem FinP.bind0 {K : PySem.W.Frag} {α β : Type} {σ : St} {τ : DS} {H S : Hp} {r : Res α} {f : α → DS → Res β} {p : DS → β → Hp → Hp → Prop} (h : FinP g K W σ τ H S (r.bind f) p) : FinP g K W σ τ H S r fun τ1 a _ _ => FinP g K W σ τ H S (f a τ1) p := by
  cases r with
  | ok a τ' => exact fun H' S' A e => h
  | err c τ' => exact h
  | stuck => exact h
theorem FinP.at {K : PySem.W.Frag} {α : Type} {σ : St} {τ τ1 : DS} {H S H1 S1 : Hp} {a : α} {p : DS → α → Hp → Hp → Prop} (h : FinP g K W σ τ H S (.ok a τ1) p) (A : Abs g K σ H1 τ1 S1) (e : Ext σ τ H S σ τ1 H1 S1) : p τ1 a H1 S1 := h H1 S1 A e
theorem di_seq (he : DE X g W e me) : DI X g W tg e (mIter me) := by
  refine ⟨⟨fun pins s σ H R I h => ?_⟩⟩
  have h' : LE g X.K W me σ H fun v H1 => (∃ a, v = .ref a ∧ (∃ xs, SqL X.K H1 a xs) ∧ R (Itl X.K a) H1) ∨ ∃ a, v = .ref a ∧ (∃ xs, SqT X.K H1 a xs) ∧ R (Itt X.K a) H1 := by
    obtain ⟨τ, S, A, h⟩ := h
    unfold mIter at h
    rw [Res.bind_assoc] at h
    refine ⟨τ, S, A, (FinP.bind0 h).mono fun τ1 r H1 S1 A1 e1 h1 v rv => ?_⟩
    obtain ⟨τ2, S2, d, A2, e2, rd, _, _, h2⟩ := FinP.force A1 e1 (.inl rv) h1
    cases rd with
    | @tup a vs ds hs rl => exact .inr ⟨a, rfl, ⟨vs, Same.seqT A2.le hs⟩, FinP.at h2 A2 e2 _ (itok_tup (fun S s => Same.seqT s hs) rl)⟩
    | @lst a vs ds hs rl => exact .inl ⟨a, rfl, ⟨vs, SqL.of (A2.le _ _ hs)⟩, FinP.at h2 A2 e2 _ (itok_list (fun S s => SqL.of (s _ _ hs)) rl)⟩
    | @rol a vs ds hs rl => exact .inl ⟨a, rfl, ⟨vs, A2.le.seq hs⟩, FinP.at h2 A2 e2 _ (itok_list (fun S s => s.seq hs) rl)⟩
    | _ => exact h2.elim
  refine thn (he.pe.run pins s σ H _ I h') fun v s1 ⟨x, H1, I1, r1, q1⟩ => ?_
  rcases q1 with ⟨a, ex, ⟨xs, hq⟩, q⟩ | ⟨a, ex, ⟨xs, hq⟩, q⟩
  · subst ex
    cases r1
    obtain ⟨its, rv, p, hz⟩ := I1.list hq
    refine wpAny_pyIter_list p.isList ?_
    refine ⟨s1.heap.objs.size, [s1.heap.objs.size], _, _, H1, rfl, I1.kept (t' := s1.toks) fun b o e => Heap.get?_push_of_some _ e, turn_list a _, ⟨_, Heap.get?_push_size _ rfl, rfl, rfl⟩, fun b hb => ?_, q⟩
    have e : b = s1.heap.objs.size := by simpa using hb
    subst e
    exact I1.fpOk (Nat.le_refl _) (I1.hok.fresh (Nat.le_refl _))
  · subst ex
    cases r1
    obtain ⟨its, rv, p, hz⟩ := I1.tuple hq
    refine wpAny_pyIter_tuple (show s1.heap.IsTuple a its.toArray from p) ?_
    refine ⟨s1.heap.objs.size, [s1.heap.objs.size], _, _, H1, rfl, I1.kept (t' := s1.toks) fun b o e => Heap.get?_push_of_some _ e, turn_tuple a _, ⟨_, Heap.get?_push_size _ rfl, rfl, rfl⟩, fun b hb => ?_, q⟩
    have e : b = s1.heap.objs.size := by simpa using hb
    subst e
    exact I1.fpOk (Nat.le_refl _) (I1.hok.fresh (Nat.le_refl _))
/-- range(n), range(a, b) -/
def rng1 (ds : List D) (τ : DS) : Res (List D) := match ds with
  | [.int n] => if -1000000000 ≤ n ∧ n < 1000000000 then .ok (iRow 0 n.toNat) τ else .stuck
  | _ => .stuck
def rng2 (ds : List D) (τ : DS) : Res (List D) := match ds with
  | [.int a, .int b] => if -1000000000 ≤ a ∧ a < 1000000000 ∧ -1000000000 ≤ b ∧ b < 1000000000 then .ok (iRow a (b - a).toNat) τ else .stuck
  | _ => .stuck
variable {ma : DS → Res (List RV)}
/-- arguments made fast, for what is walked -/
theorem LI.fast {K : PySem.W.Frag} {f : List D → DS → Res (List D)} {σ : St} {H : Hp} {R : It → Hp → Prop} (h : LI g K W (mFast ma f) σ H R) :
    LA g K W ma σ H fun vs H1 => ∃ τ0 S0 τ S ds, Abs g K σ H1 τ S ∧ Ext σ τ0 H S0 σ τ H1 S ∧ RepL g K S vs ds ∧ FinP g K W σ τ H1 S (f ds τ) fun _ xs H' S' => ∀ J, ItOk g K J S' xs → R J H' := by
  obtain ⟨τ, S, A, h⟩ := h
  refine ⟨τ, S, A, (LA.fast h).mono fun τ1 rs H1 S1 A1 e1 q vs rvs => ?_⟩
  obtain ⟨τ', S', ds, A', e', rl, h3⟩ := q vs rvs
  exact ⟨τ, S, τ', S', ds, A', e', rl, h3⟩
theorem di_range1 {a : Expr} {p : Pos} (hg : Gl X "range") (hm : X.mg "range" = none) (ha : DA X g W [a] ma) (hs : starEach [a] X.env = [(false, eval a X.env)] := by rfl) : DI X g W tg (.Call (.Name "range" p) [a] [] pos) (mFast ma rng1) := by
  refine ⟨PI.imp (pi_range1 hg hm ha.pa hs) fun σ H R h => (LI.fast h).mono fun vs H1 ⟨τ0, S0, τ, S, ds, A, e, rl, h1⟩ => ?_⟩
  match ds, rl, h1 with
  | [.int n], .cons (.int _) .nil, h1 =>
    obtain ⟨⟨b1, b2⟩, h2⟩ := fin_if h1
    exact ⟨n, rfl, by omega, by omega, FinP.here A h2 _ itok_range⟩
theorem di_range2 {a b : Expr} {p : Pos} (hg : Gl X "range") (hm : X.mg "range" = none) (ha : DA X g W [a, b] ma) (hs : starEach [a, b] X.env = [(false, eval a X.env), (false, eval b X.env)] := by rfl) (hs2 : starEach [b] X.env = [(false, eval b X.env)] := by rfl) :
    DI X g W tg (.Call (.Name "range" p) [a, b] [] pos) (mFast ma rng2) := by
  refine ⟨PI.imp (pi_range2 hg hm ha.pa hs hs2) fun σ H R h => (LI.fast h).mono fun vs H1 ⟨τ0, S0, τ, S, ds, A, e, rl, h1⟩ => ?_⟩
  match ds, rl, h1 with
  | [.int n, .int m], .cons (.int _) (.cons (.int _) .nil), h1 =>
    obtain ⟨⟨b1, b2, b3, b4⟩, h2⟩ := fin_if h1
    exact ⟨n, m, rfl, ⟨by omega, by omega, by omega, by omega⟩, FinP.here A h2 _ itok_range⟩
end

/-! ### for -/
def forL (mt : D → DS → Option DS) (mb : DS → SRes) : List D → DS → SRes
  | [], τ => .nx τ
  | x :: xs, τ => match mt x τ with
    | none => .stuck
    | some τ1 => match mb τ1 with
      | .nx τ2 => forL mt mb xs τ2
      | .ct τ2 => forL mt mb xs τ2
      | .bk τ2 => .nx τ2
      | r => r
def mFor (mi : DS → Res (List D)) (mt : D → DS → Option DS) (mb : DS → SRes) : DS → SRes := fun τ => (mi τ).toS fun xs τ1 => forL mt mb xs τ1
section
variable {X : Cx} {g : Gm} {W : WX} {k : Nat → Bool} {tg iter : Expr} {body : List Stmt} {mi : DS → Res (List D)} {mt : D → DS → Option DS} {mb : DS → SRes} {pos : Pos}
theorem ds_for (hp : PassesOwn (model X.prog X.w) X.A X.env X.xe) (hc : X.calm = true) (hi : DI X g W tg iter mi) (hg : DG X g k tg mt) (hb : DSs X g W k body mb)
    (hs : ∀ x, foldedSetIterable iter X.env x = pure x := by intro _; rfl) : DSt X g W k (.For tg iter body [] pos) (mFor mi mt mb) := by
  refine ⟨PS.imp (ps_for hp hc hi.pi hg.pg hb.ps hs) fun D σ0 H0 ⟨τ0, S0, A0, h0⟩ => ⟨τ0, S0, A0, (FinS.toS h0).mono fun τ1 xs H1 S1 A1 _ h1 J hJ => ?_⟩⟩
  refine ⟨fun i m σ H => m = xs.length - i ∧ i ≤ xs.length ∧ ∃ τ S, Abs g X.K σ H τ S ∧ Same S1 S ∧ FinS g X.K W k σ τ H S (forL mt mb (xs.drop i) τ) D, ⟨xs.length, by omega, Nat.zero_le _, τ1, S1, A1, Same.refl _, h1⟩, ?_⟩
  rintro i m σ H ⟨rfl, hi, τ, S, A, sm, h⟩
  obtain ⟨go, stop⟩ := hJ i H S sm A.le
  by_cases hlt : i < xs.length
  · obtain ⟨g1, g2⟩ := go xs[i] (List.getElem?_eq_getElem hlt)
    refine .inr ⟨g1, fun σ' H' => ∃ τ' S', Abs g X.K σ' H' τ' S' ∧ Same S1 S' ∧ FinS g X.K W k σ' τ' H' S' (forL mt mb (xs.drop (i + 1)) τ') D, fun σ' H' ⟨τ', S', q⟩ => ⟨xs.length - (i + 1), by omega, rfl, hlt, τ', S', q⟩, fun x H2 y => ?_⟩
    obtain ⟨S2, s1, s2, s3, r, s4⟩ := g2 x H2 y
    obtain ⟨A2, e2⟩ := A.step s1 s2 s3 s4
    have h2 := FinS.ext h e2 .refl
    rw [List.drop_eq_getElem_cons hlt] at h2
    unfold forL at h2
    refine ⟨τ, S2, xs[i], A2, r, ?_⟩
    cases q : mt xs[i] τ with
    | none => rw [q] at h2; exact h2
    | some τ3 =>
      rw [q] at h2
      dsimp only at h2
      intro σ3 A3 e3 p3
      refine ⟨τ3, S2, A3, ?_⟩
      have h3 := FinS.ext h2 e3 p3
      revert h3
      generalize mb τ3 = r
      intro h3
      have sm2 : Same S1 S2 := sm.trans s1
      cases r with
      | nx τ4 => exact fun σ4 H4 S4 A4 e4 p4 => ⟨τ4, S4, A4, sm2.trans e4.st, FinS.ext h3 e4 p4⟩
      | ct τ4 => exact fun σ4 H4 S4 A4 e4 p4 => ⟨τ4, S4, A4, sm2.trans e4.st, FinS.ext h3 e4 p4⟩
      | bk τ4 => exact h3
      | rt r τ4 => exact h3
      | err c τ4 => exact h3
      | stuck => exact h3
  · have e : i = xs.length := by omega
    subst e
    rw [List.drop_length] at h
    exact .inl ⟨stop (Nat.le_refl _), FinS.here A h⟩
end

/-! ### while -/
def whileN (c : DS → Res Bool) (b : DS → SRes) : Nat → DS → Option SRes
  | 0, _ => none
  | n + 1, τ => match c τ with
    | .ok true τ1 => match b τ1 with
      | .nx τ2 => whileN c b n τ2
      | .ct τ2 => whileN c b n τ2
      | .bk τ2 => some (.nx τ2)
      | r => some r
    | .ok false τ1 => some (.nx τ1)
    | .err c τ1 => some (.err c τ1)
    | .stuck => some .stuck
theorem whileN_mono {c : DS → Res Bool} {b : DS → SRes} : ∀ {n : Nat} {τ : DS} {r : SRes}, whileN c b n τ = some r → ∀ m, n ≤ m → whileN c b m τ = some r
  | 0, _, _, h, _, _ => by cases h
  | n + 1, τ, r, h, 0, hm => by omega
  | n + 1, τ, r, h, m + 1, hm => by
    unfold whileN at h ⊢
    revert h
    generalize c τ = q
    cases q with
    | ok d τ1 =>
      cases d with
      | true =>
        dsimp only
        generalize b τ1 = q
        cases q with
        | nx τ2 => exact fun h => whileN_mono h m (by omega)
        | ct τ2 => exact fun h => whileN_mono h m (by omega)
        | _ => exact fun h => h
      | false => exact fun h => h
    | _ => exact fun h => h
open Classical in
noncomputable def mWhile (c : DS → Res Bool) (b : DS → SRes) : DS → SRes := fun τ => if h : ∃ n r, whileN c b n τ = some r then h.choose_spec.choose else .stuck
theorem mWhile_of {c : DS → Res Bool} {b : DS → SRes} {n : Nat} {τ : DS} {r : SRes} (h : whileN c b n τ = some r) : mWhile c b τ = r := by
  have hx : ∃ n r, whileN c b n τ = some r := ⟨n, r, h⟩
  unfold mWhile
  rw [dif_pos hx]
  have h2 := hx.choose_spec.choose_spec
  have h3 := whileN_mono h (max n hx.choose) (Nat.le_max_left _ _)
  have h4 := whileN_mono h2 (max n hx.choose) (Nat.le_max_right _ _)
  exact Option.some.inj (h4.symm.trans h3)
/-- one turn -/
theorem mWhile_eq (c : DS → Res Bool) (b : DS → SRes) (τ : DS) : mWhile c b τ = match c τ with
    | .ok true τ1 => match b τ1 with
      | .nx τ2 => mWhile c b τ2
      | .ct τ2 => mWhile c b τ2
      | .bk τ2 => .nx τ2
      | r => r
    | .ok false τ1 => .nx τ1
    | .err c τ1 => .err c τ1
    | .stuck => .stuck := by
  have key : ∀ τ τ2, (∀ n, whileN c b (n + 1) τ = whileN c b n τ2) → mWhile c b τ = mWhile c b τ2 := by
    intro τ τ2 h
    by_cases hx : ∃ n r, whileN c b n τ2 = some r
    · obtain ⟨n, r, q⟩ := hx
      rw [mWhile_of q, mWhile_of ((h n).trans q)]
    · have hy : ¬ ∃ n r, whileN c b n τ = some r := fun ⟨n, r, q⟩ => by
        cases n with
        | zero => cases q
        | succ n => exact hx ⟨n, r, (h n).symm.trans q⟩
      unfold mWhile
      rw [dif_neg hx, dif_neg hy]
  cases q : c τ with
  | ok d τ1 =>
    cases d with
    | true =>
      dsimp only
      cases q2 : b τ1 with
      | nx τ2 => exact key _ _ fun n => by simp only [whileN, q, q2]
      | ct τ2 => exact key _ _ fun n => by simp only [whileN, q, q2]
      | bk τ2 => exact mWhile_of (n := 1) (by simp only [whileN, q, q2])
      | rt r τ2 => exact mWhile_of (n := 1) (by simp only [whileN, q, q2])
      | err r τ2 => exact mWhile_of (n := 1) (by simp only [whileN, q, q2])
      | stuck => exact mWhile_of (n := 1) (by simp only [whileN, q, q2])
    | false => exact mWhile_of (n := 1) (by simp only [whileN, q])
  | err r τ2 => exact mWhile_of (n := 1) (by simp only [whileN, q])
  | stuck => exact mWhile_of (n := 1) (by simp only [whileN, q])
section
variable {X : Cx} {g : Gm} {W : WX} {k : Nat → Bool} {c : Expr} {body : List Stmt} {mc : DS → Res Bool} {mb : DS → SRes} {pos : Pos}
theorem ds_while (hp : PassesOwn (model X.prog X.w) X.A X.env X.xe) (hc : DT X g W c mc) (hb : DSs X g W k body mb) : DSt X g W k (.While c body [] pos) (mWhile mc mb) := by
  refine ⟨PS.imp (ps_while hp hc.pt hb.ps) fun D σ0 H0 ⟨τ0, S0, A0, h0⟩ => ?_⟩
  have hx : ∃ n r, whileN mc mb n τ0 = some r := Classical.byContradiction fun z => by
    unfold mWhile at h0
    rw [dif_neg z] at h0
    exact h0
  obtain ⟨n0, r0, q0⟩ := hx
  refine ⟨fun m σ H => ∃ τ S r, Abs g X.K σ H τ S ∧ whileN mc mb m τ = some r ∧ FinS g X.K W k σ τ H S r D, ⟨n0, τ0, S0, r0, A0, q0, by rw [mWhile_of q0] at h0; exact h0⟩, ?_⟩
  rintro m σ H ⟨τ, S, r, A, q, h⟩
  cases m with
  | zero => cases q
  | succ m =>
    unfold whileN at q
    refine ⟨τ, S, A, ?_⟩
    revert q
    generalize mc τ = d
    cases d with
    | ok d τ1 =>
      intro q H1 S1 A1 e1
      cases d with
      | false =>
        dsimp only at q
        cases q
        exact iteF (h _ _ _ A1 e1 .refl)
      | true =>
        dsimp only at q
        refine iteT ⟨fun σ' H' => ∃ τ' S' r', Abs g X.K σ' H' τ' S' ∧ whileN mc mb m τ' = some r' ∧ FinS g X.K W k σ' τ' H' S' r' D, fun σ' H' z => ⟨m, Nat.lt_succ_self _, z⟩, τ1, S1, A1, ?_⟩
        have h1 := FinS.ext h e1 .refl
        revert q
        generalize mb τ1 = r1
        intro q
        cases r1 with
        | nx τ2 => exact fun σ2 H2 S2 A2 e2 p2 => ⟨τ2, S2, r, A2, q, FinS.ext h1 e2 p2⟩
        | ct τ2 => exact fun σ2 H2 S2 A2 e2 p2 => ⟨τ2, S2, r, A2, q, FinS.ext h1 e2 p2⟩
        | bk τ2 => cases q; exact h1
        | rt r2 τ2 => cases q; exact h1
        | err r2 τ2 => cases q; exact h1
        | stuck => cases q; exact h1
    | err c τ1 => intro q; cases q; exact fun H1 S1 A1 e1 => h σ H1 S1 A1 e1 .refl
    | stuck => intro q; cases q; exact h
end

/-! ### what a def promises -/
inductive FR where
  | ok (r : RV) | err (c : Nat) | stuck
inductive FB where
  | ok (r : RV) (c : Cn) | stuck
structure Xt (O : Addr → Prop) (H S H' S' : Hp) : Prop where
  st : Same S S'
  pv : ∀ a o, H a = some o → S a = none → ¬ O a → H' a = some o ∧ S' a = none
  al : ∀ a, H' a = none → H a = none
inductive RepR (g : Gm) (K : PySem.W.Frag) (H0 H S : Hp) : V → RV → Prop
  | dat {v : V} {d : D} : Rep g K S v d → RepR g K H0 H S v (.dat d)
  | fr {p : Addr} {o : HO} {c : Cn} : H0 p = none → H p = some o → S p = none → RepC g K S o c → RepR g K H0 H S (.ref p) (.fr c)
/-- a def that changes nothing that it is handed -/
def spP (g : Gm) (K : PySem.W.Frag) (n : Nat) (F : List D → FR) : Sp := fun vs H Q E => ∃ S ds, Same S H ∧ RepL g K S vs ds ∧ ds.length = n ∧ match F ds with
  | .ok r => ∀ v H' S', Same S' H' → Xt (fun _ => False) H S H' S' → RepR g K H H' S' v r → Q v H'
  | .err c => ∀ H' S', Same S' H' → Xt (fun _ => False) H S H' S' → E (.ref (g c)) none H'
  | .stuck => False
/-- a def that may change its first argument -/
def spB (g : Gm) (K : PySem.W.Frag) (n : Nat) (F : Cn → List D → FB) : Sp := fun vs H Q E => ∃ S p o c vr ds, vs = .ref p :: vr ∧ Same S H ∧ H p = some o ∧ S p = none ∧ RepC g K S o c ∧ RepL g K S vr ds ∧ ds.length + 1 = n ∧ match F c ds with
  | .ok r c' => ∀ v H' S' o', Same S' H' → Xt (fun a => a = p) H S H' S' → H' p = some o' → S' p = none → RepC g K S' o' c' → RepR g K H H' S' v r → Q v H'
  | .stuck => False
def runF (n : Nat) (m : DS → SRes) (ds : List D) : FR := match m (ds.map SV.dat ++ List.replicate (n - ds.length) .emp) with
  | .rt r _ => .ok r
  | .nx _ => .ok (.dat .non)
  | .err c _ => .err c
  | _ => .stuck
def outB (r : RV) (τ : DS) : FB := match τ with
  | .own c' :: _ => .ok r c'
  | _ => .stuck
def runB (n : Nat) (m : DS → SRes) (c : Cn) (ds : List D) : FB := match m (.own c :: (ds.map SV.dat ++ List.replicate (n - 1 - ds.length) .emp)) with
  | .rt r τ => outB r τ
  | .nx τ => outB (.dat .non) τ
  | _ => .stuck
section
variable {P : Program} {w : World} {K : PySem.W.Frag} {mg : Str → Option Value} {base : Heap} {g : Gm} {σ : St} {τ : DS} {H S : Hp}
theorem start_get {vs : List V} {n i : Nat} {x : V} (h : (vs.map some ++ List.replicate n none)[i]? = some (some x)) : vs[i]? = some x := by
  by_cases hi : i < vs.length
  · rw [List.getElem?_append_left (by simpa using hi), List.getElem?_map] at h
    rw [List.getElem?_eq_getElem hi] at h ⊢
    exact Option.some.inj h
  · rw [List.getElem?_append_right (by simpa using hi), List.getElem?_replicate] at h
    split at h <;> cases h
theorem start_val {vs : List V} {n i : Nat} {x : V} (h : vs[i]? = some x) : (vs.map some ++ List.replicate n none)[i]? = some (some x) := by
  have hi : i < vs.length := (List.getElem?_eq_some_iff.mp h).1
  rw [List.getElem?_append_left (by simpa using hi), List.getElem?_map, h]
  rfl
theorem slots_get {ds : List D} {n i : Nat} {x : SV} (h : (ds.map SV.dat ++ List.replicate n .emp)[i]? = some x) : (∃ d, ds[i]? = some d ∧ x = .dat d) ∨ x = .emp := by
  by_cases hi : i < ds.length
  · rw [List.getElem?_append_left (by simpa using hi), List.getElem?_map, List.getElem?_eq_getElem hi] at h
    exact .inl ⟨ds[i], List.getElem?_eq_getElem hi, (Option.some.inj h).symm⟩
  · rw [List.getElem?_append_right (by simpa using hi), List.getElem?_replicate] at h
    split at h
    · exact .inr (Option.some.inj h).symm
    · cases h
theorem abs_start {vs : List V} {ds : List D} {n : Nat} (le : Same S H) (r : RepL g K S vs ds) : Abs g K (vs.map some ++ List.replicate n none) H (ds.map SV.dat ++ List.replicate n .emp) S where
  le := le
  len := by simp [r.length]
  dat := fun i d e => by
    rcases slots_get e with ⟨d', e1, e2⟩ | e2
    · cases e2
      obtain ⟨v, e3, r3⟩ := r.get e1
      exact ⟨v, start_val e3, r3⟩
    · cases e2
  own := fun i c e => by
    rcases slots_get e with ⟨d', e1, e2⟩ | e2 <;> cases e2
  inj := fun i j c c' e _ _ => by
    rcases slots_get e with ⟨d', e1, e2⟩ | e2 <;> cases e2
theorem own_start {ds : List D} {n : Nat} {a : Addr} (h : Own σ (ds.map SV.dat ++ List.replicate n .emp) a) : False := by
  obtain ⟨i, c, e, _⟩ := h
  rcases slots_get e with ⟨d', e1, e2⟩ | e2 <;> cases e2
/-- THE RULE for a def that changes nothing that it is handed -/
theorem fn_p {x qual : Str} {st : Stmt} {f : Addr} {fd : FuncData} {N ps : List Str} {lv : Nat} {m : DS → SRes} (F : Fun K x qual st f fd) (Sc : FnScope N ps (defScope st))
    (hb : ∀ (cdv : Value) (A : Around) (outer : List Env) (s : Shared) (H : Hp) (E : XK), Room lv (A.deeper (envOfC qual (defScope st) s.heap.objs.size f cdv)) → DSs (cxOf (L2.CX P w) P w K mg base N qual (defScope st) f cdv A outer s H E) g (fun cls d _ H => E cls d H) (fun _ => false) (defBody st) m) :
    FnOk P w K mg base (L2.CX P w) (lv + 1) f fd ps (spP g K ps.length (runF N.length m)) := by
  refine F.okX Sc (fun vs H Q E ⟨S, ds, _, rl, hl, _⟩ => rl.length.trans hl) fun cdv A outer s H vs Q E hr ⟨S, ds, le, rl, hl, h⟩ => ⟨_, (hb cdv A outer s H E hr).ps, ?_⟩
  unfold L2.start
  have el : N.length - vs.length = N.length - ds.length := by rw [rl.length]
  rw [el]
  refine ⟨ds.map SV.dat ++ List.replicate (N.length - ds.length) SV.emp, S, abs_start le rl, ?_⟩
  unfold runF at h
  revert h
  generalize m (ds.map SV.dat ++ List.replicate (N.length - ds.length) .emp) = r
  intro h
  have xt : ∀ {σ' : St} {τ' : DS} {H' S' : Hp}, Ext (vs.map some ++ List.replicate (N.length - ds.length) none) (ds.map SV.dat ++ List.replicate (N.length - ds.length) .emp) H S σ' τ' H' S' → Xt (fun _ => False) H S H' S' := fun e => ⟨e.st, fun a o h1 h2 _ => e.pv a o h1 h2 own_start, e.al⟩
  cases r with
  | nx τ' => exact fun σ' H' S' A e p => h .non H' S' A.le (xt e) (.dat .non)
  | bk τ' => exact h.elim
  | ct τ' => exact h.elim
  | err c τ' => exact fun σ' H' S' A e p => h H' S' A.le (xt e)
  | stuck => exact h.elim
  | rt r τ' =>
    refine fun σ' v H' S' A e p x => h v H' S' A.le (xt e) ?_
    cases x with
    | dat r => exact .dat r
    | fr z hp n no r => exact .fr (z.resolve_left own_start) hp n r
theorem abs_startB {p : Addr} {o : HO} {c : Cn} {vs : List V} {ds : List D} {n : Nat} (le : Same S H) (hp : H p = some o) (np : S p = none) (rc : RepC g K S o c) (r : RepL g K S vs ds) :
    Abs g K ((V.ref p :: vs).map some ++ List.replicate n none) H (.own c :: (ds.map SV.dat ++ List.replicate n .emp)) S where
  le := le
  len := by simp [r.length]
  dat := fun i d e => by
    cases i with
    | zero => simp at e
    | succ i =>
      rw [List.getElem?_cons_succ] at e
      rcases slots_get e with ⟨d', e1, e2⟩ | e2
      · cases e2
        obtain ⟨v, e3, r3⟩ := r.get e1
        exact ⟨v, by simpa using start_val (n := n) e3, r3⟩
      · cases e2
  own := fun i c' e => by
    cases i with
    | zero => simp at e; subst e; exact ⟨p, o, by simp, hp, np, rc⟩
    | succ i =>
      rw [List.getElem?_cons_succ] at e
      rcases slots_get e with ⟨d', e1, e2⟩ | e2 <;> cases e2
  inj := fun i j c1 c2 e1 e2 _ => by
    cases i with
    | zero => cases j with
      | zero => rfl
      | succ j =>
        rw [List.getElem?_cons_succ] at e2
        rcases slots_get e2 with ⟨d', _, z⟩ | z <;> cases z
    | succ i =>
      rw [List.getElem?_cons_succ] at e1
      rcases slots_get e1 with ⟨d', _, z⟩ | z <;> cases z
theorem own_startB {p : Addr} {c : Cn} {vs : List V} {ds : List D} {n : Nat} {a : Addr} (h : Own ((V.ref p :: vs).map some ++ List.replicate n none) (.own c :: (ds.map SV.dat ++ List.replicate n .emp)) a) : a = p := by
  obtain ⟨i, c', e, e'⟩ := h
  cases i with
  | zero => simp at e'; exact e'.symm
  | succ i =>
    rw [List.getElem?_cons_succ] at e
    rcases slots_get e with ⟨d', e1, e2⟩ | e2 <;> cases e2
/-- THE RULE for a def that may change its first argument -/
theorem fn_b {x qual : Str} {st : Stmt} {f : Addr} {fd : FuncData} {N ps : List Str} {lv : Nat} {m : DS → SRes} (F : Fun K x qual st f fd) (Sc : FnScope N ps (defScope st))
    (hb : ∀ (cdv : Value) (A : Around) (outer : List Env) (s : Shared) (H : Hp) (E : XK), Room lv (A.deeper (envOfC qual (defScope st) s.heap.objs.size f cdv)) → DSs (cxOf (L2.CX P w) P w K mg base N qual (defScope st) f cdv A outer s H E) g (fun cls d _ H => E cls d H) (fun i => i == 0) (defBody st) m) :
    FnOk P w K mg base (L2.CX P w) (lv + 1) f fd ps (spB g K ps.length (runB N.length m)) := by
  refine F.okX Sc (fun vs H Q E ⟨S, p, o, c, vr, ds, ev, _, _, _, _, rl, hl, _⟩ => by rw [ev, List.length_cons, rl.length]; exact hl) fun cdv A outer s H vs Q E hr ⟨S, p, o, c, vr, ds, ev, le, hp, np, rc, rl, hl, h⟩ => ⟨_, (hb cdv A outer s H E hr).ps, ?_⟩
  subst ev
  unfold L2.start
  have el : N.length - (V.ref p :: vr).length = N.length - 1 - ds.length := by rw [List.length_cons, rl.length]; omega
  rw [el]
  refine ⟨SV.own c :: (ds.map SV.dat ++ List.replicate (N.length - 1 - ds.length) SV.emp), S, abs_startB le hp np rc rl, ?_⟩
  unfold runB at h
  revert h
  generalize m (.own c :: (ds.map SV.dat ++ List.replicate (N.length - 1 - ds.length) .emp)) = r
  intro h
  have xt : ∀ {σ' : St} {τ' : DS} {H' S' : Hp}, Ext ((V.ref p :: vr).map some ++ List.replicate (N.length - 1 - ds.length) none) (.own c :: (ds.map SV.dat ++ List.replicate (N.length - 1 - ds.length) .emp)) H S σ' τ' H' S' → Xt (fun a => a = p) H S H' S' :=
    fun e => ⟨e.st, fun a o h1 h2 no => e.pv a o h1 h2 fun z => no (own_startB z), e.al⟩
  -- the first slot behind the body
  have fst : ∀ {σ' : St} {τ' : DS} {c' : Cn} {H' S' : Hp} {rest : DS}, τ' = .own c' :: rest → Abs g K σ' H' τ' S' → Pr (fun i => i == 0) ((V.ref p :: vr).map some ++ List.replicate (N.length - 1 - ds.length) none) σ' → Own σ' τ' p ∧ ∃ o', H' p = some o' ∧ S' p = none ∧ RepC g K S' o' c' := by
    intro σ' τ' c' H' S' rest e A pr
    subst e
    obtain ⟨a, o', e1, e2, e3, e4⟩ := A.own 0 c' rfl
    have z := pr.2 0 rfl
    rw [e1] at z
    simp at z
    subst z
    exact ⟨⟨0, c', rfl, e1⟩, o', e2, e3, e4⟩
  cases r with
  | bk τ' => exact h.elim
  | ct τ' => exact h.elim
  | err c τ' => exact h.elim
  | stuck => exact h.elim
  | nx τ' =>
    intro σ' H' S' A e pr
    match τ', h, A, e with
    | [], h, _, _ => exact h.elim
    | .emp :: _, h, _, _ => exact h.elim
    | .dat _ :: _, h, _, _ => exact h.elim
    | .own c' :: rest, h, A, e =>
      obtain ⟨_, o', z1, z2, z3⟩ := fst rfl A pr
      exact h .non H' S' o' A.le (xt e) z1 z2 z3 (.dat .non)
  | rt r τ' =>
    intro σ' v H' S' A e pr x
    match τ', h, A, e, x with
    | [], h, _, _, _ => exact h.elim
    | .emp :: _, h, _, _, _ => exact h.elim
    | .dat _ :: _, h, _, _, _ => exact h.elim
    | .own c' :: rest, h, A, e, x =>
      obtain ⟨ow, o', z1, z2, z3⟩ := fst rfl A pr
      refine h v H' S' o' A.le (xt e) z1 z2 z3 ?_
      cases x with
      | dat r => exact .dat r
      | fr z hp n no r =>
        refine .fr (z.resolve_left fun q => ?_) hp n r
        have := own_startB q
        subst this
        exact no ow
/-- another function where it is worth as much -/
theorem FnOk.of_eq {k n : Nat} {f : Addr} {fd : FuncData} {ps : List Str} {F G : List D → FR} (h : FnOk P w K mg base (L2.CX P w) k f fd ps (spP g K n F)) (e : ∀ ds, ds.length = n → G ds ≠ .stuck → F ds = G ds) : FnOk P w K mg base (L2.CX P w) k f fd ps (spP g K n G) := by
  refine h.imp fun vs H Q E ⟨S, ds, le, rl, hl, z⟩ => ⟨S, ds, le, rl, hl, ?_⟩
  by_cases hs : G ds = .stuck
  · rw [hs] at z; exact z.elim
  · rw [e ds hl hs]; exact z
theorem FnOk.of_eqB {k n : Nat} {f : Addr} {fd : FuncData} {ps : List Str} {F G : Cn → List D → FB} (h : FnOk P w K mg base (L2.CX P w) k f fd ps (spB g K n F)) (e : ∀ c ds, ds.length + 1 = n → G c ds ≠ .stuck → F c ds = G c ds) : FnOk P w K mg base (L2.CX P w) k f fd ps (spB g K n G) := by
  refine h.imp fun vs H Q E ⟨S, p, o, c, vr, ds, ev, le, hp, np, rc, rl, hl, z⟩ => ⟨S, p, o, c, vr, ds, ev, le, hp, np, rc, rl, hl, ?_⟩
  by_cases hs : G c ds = .stuck
  · rw [hs] at z; exact z.elim
  · rw [e c ds hl hs]; exact z
end

/-! ### calls -/
def FR.at (r : FR) (τ : DS) : Res RV := match r with
  | .ok r => .ok r τ
  | .err c => .err c τ
  | .stuck => .stuck
def callF (n : Nat) (F : List D → FR) (ds : List D) (τ : DS) : Res RV := if ds.length = n then (F ds).at τ else .stuck
def mCall (n : Nat) (F : List D → FR) (ma : DS → Res (List RV)) : DS → Res RV := mFast ma (callF n F)
/-- the first argument is lent -/
def callB (n : Nat) (F : Cn → List D → FB) (j : Nat) (ds : List D) (τ : DS) : Res RV := match τ[j]? with
  | some (.own c) => if ds.length + 1 = n then (match F c ds with
    | .ok r c' => .ok r (τ.set j (.own c'))
    | .stuck => .stuck) else .stuck
  | _ => .stuck
def mCallB (n : Nat) (F : Cn → List D → FB) (j : Nat) (ma : DS → Res (List RV)) : DS → Res RV := fun τ => match τ[j]? with
  | some (.own _) => mFast ma (callB n F j) τ
  | _ => .stuck
section
variable {X : Cx} {g : Gm} {W : WX} {lv n : Nat} {f : Addr} {fd : FuncData} {ps : List Str} {x y : Str} {p p2 pos : Pos} {e : Expr} {es : List Expr} {ma : DS → Res (List RV)}
theorem Abs.back {K : PySem.W.Frag} {σ : St} {τ : DS} {H S H' S' : Hp} (A : Abs g K σ H τ S) (le : Same S' H') (x : Xt (fun _ => False) H S H' S') : Abs g K σ H' τ S' ∧ Ext σ τ H S σ τ H' S' := by
  refine ⟨⟨le, A.len, fun i d e => ?_, fun i c e => ?_, A.inj⟩, x.st, fun a o h n _ => x.pv a o h n id, fun _ h => .inl h, x.al⟩
  · obtain ⟨v, e1, r⟩ := A.dat i d e
    exact ⟨v, e1, r.mono x.st⟩
  · obtain ⟨a, o, e1, e2, n, r⟩ := A.own i c e
    obtain ⟨z1, z2⟩ := x.pv a o e2 n id
    exact ⟨a, o, e1, z1, z2, r.mono x.st⟩
theorem de_call {F : List D → FR} (G : FnOk X.prog X.w X.K X.mg X.base (L2.CX X.prog X.w) lv f fd ps (spP g X.K n F)) (tk : Takes X W) (hr : Room lv X.A) (hg : Gl X x) (hm : X.mg x = some (.ref f)) (hk : PySem.W.keepIn X.K (.ref f) = true) (hb : Binds X.K fd ps [])
    (ha : DA X g W (e :: es) ma) (hdb : (x == ("__debug__" : Str)) = false := by decide) (he : starEach (e :: es) X.env = (false, eval e X.env) :: starEach es X.env := by rfl) (hpl : (backTo pos (starEach es X.env)).any (·.1) = false := by rfl) :
    DE X g W (.Call (.Name x p) (e :: es) [] pos) (mCall n F ma) := by
  refine ⟨PE.imp (pe_callS G hr hg hm hk hb (passAt tk) ha.pa hdb he hpl) fun σ H Q h => (LE.fast h).mono fun vs H1 ⟨τ, S, ds, A, al, rl, h1⟩ => ?_⟩
  obtain ⟨hl, h2⟩ := fin_if h1
  refine ⟨S, ds, A.le, rl, hl, ?_⟩
  revert h2
  generalize F ds = r
  intro h2
  cases r with
  | stuck => exact h2.elim
  | err c => exact fun H' S' le x => let ⟨A', e'⟩ := A.back le x; h2 H' S' A' e'
  | ok r =>
    intro v H' S' le x rr
    obtain ⟨A', e'⟩ := A.back le x
    refine h2 H' S' A' e' v ?_
    cases rr with
    | dat r => exact .dat r
    | fr h0 hp n r =>
      refine .fr (al _ h0) hp n (fun z => ?_) r
      obtain ⟨o, z⟩ := A.own_some z
      rw [h0] at z; cases z
theorem Abs.backB {K : PySem.W.Frag} {σ : St} {τ : DS} {H S H' S' : Hp} {j : Nat} {q : Addr} {c c' : Cn} {o' : HO} (A : Abs g K σ H τ S) (hj : τ[j]? = some (SV.own c)) (hs : σ[j]? = some (some (.ref q))) (le : Same S' H') (x : Xt (fun a => a = q) H S H' S') (h1 : H' q = some o') (h2 : S' q = none) (h3 : RepC g K S' o' c') :
    Abs g K σ H' (τ.set j (.own c')) S' ∧ Ext σ τ H S σ (τ.set j (.own c')) H' S' := by
  have toOld : ∀ {i : Nat} {c1 : Cn}, (τ.set j (SV.own c'))[i]? = some (.own c1) → ∃ c2, τ[i]? = some (.own c2) := fun {i c1} e => by
    rcases set_get e with ⟨z, _⟩ | ⟨_, z⟩
    · subst z; exact ⟨c, hj⟩
    · exact ⟨c1, z⟩
  refine ⟨⟨le, by simpa using A.len, fun i d e => ?_, fun i c1 e => ?_, fun i l c1 c2 e1 e2 e3 => ?_⟩, x.st, fun a o h n no => x.pv a o h n fun z => ?_, fun a ⟨i, c1, e1, e2⟩ => ?_, x.al⟩
  · rcases set_get e with ⟨_, z⟩ | ⟨_, z⟩
    · cases z
    · obtain ⟨v, e1, r⟩ := A.dat i d z
      exact ⟨v, e1, r.mono x.st⟩
  · rcases set_get e with ⟨z, z2⟩ | ⟨hne, z⟩
    · subst z; cases z2
      exact ⟨q, o', hs, h1, h2, h3⟩
    · obtain ⟨a, o, e1, e2, n, r⟩ := A.own i c1 z
      have ne : ¬ a = q := fun w => by
        subst w
        exact hne (A.inj j i c c1 hj z (hs.trans e1.symm))
      obtain ⟨z1, z2⟩ := x.pv a o e2 n ne
      exact ⟨a, o, e1, z1, z2, r.mono x.st⟩
  · obtain ⟨c3, z1⟩ := toOld e1
    obtain ⟨c4, z2⟩ := toOld e2
    exact A.inj i l c3 c4 z1 z2 e3
  · exact no (by rw [show a = q from z]; exact ⟨j, c, hj, hs⟩)
  · obtain ⟨c3, z1⟩ := toOld e1
    exact .inl ⟨i, c3, z1, e2⟩
/-- the first argument is the name of a slot -/
theorem de_callB {F : Cn → List D → FB} (j : Nat) (G : FnOk X.prog X.w X.K X.mg X.base (L2.CX X.prog X.w) lv f fd ps (spB g X.K n F)) (tk : Takes X W) (hr : Room lv X.A) (hg : Gl X x) (hm : X.mg x = some (.ref f)) (hk : PySem.W.keepIn X.K (.ref f) = true) (hb : Binds X.K fd ps [])
    (ha : DA X g W es ma) (hN : X.N[j]? = some y := by rfl) (hv : Vis X.env.scope y := by first | exact Or.inl rfl | exact Or.inr (Or.inl rfl) | exact Or.inr (Or.inr rfl)) (hd : (y == ("__debug__" : Str)) = false := by decide) (hcd : (y == ("__classdict__" : Str)) = false := by decide)
    (hdb : (x == ("__debug__" : Str)) = false := by decide) (he : starEach (.Name y p2 :: es) X.env = (false, eval (.Name y p2) X.env) :: starEach es X.env := by rfl) (hpl : (backTo pos (starEach es X.env)).any (·.1) = false := by rfl) :
    DE X g W (.Call (.Name x p) (.Name y p2 :: es) [] pos) (mCallB n F j ma) := by
  refine ⟨PE.imp (pe_callS G hr hg hm hk hb (passAt tk) (pa_cons (pe_var (i := j) hN hv hd hcd) ha.pa he) hdb he hpl) fun σ H Q h => ?_⟩
  obtain ⟨τ, S, A, h⟩ := h
  unfold mCallB at h
  cases q0 : τ[j]? with
  | none => rw [q0] at h; exact h.elim
  | some sv =>
    rw [q0] at h
    cases sv with
    | emp => exact h.elim
    | dat d => exact h.elim
    | own c0 =>
      obtain ⟨a, o, hv, _⟩ := A.own j c0 q0
      have h' := LA.fast h
      refine ⟨_, hv, τ, S, A, h'.mono fun τ1 rs H1 S1 A1 e1 q vs rvs => ?_⟩
      obtain ⟨τ2, S2, ds, A2, e2, rl, h2⟩ := q vs rvs
      unfold callB at h2
      cases q : τ2[j]? with
      | none => rw [q] at h2; exact h2.elim
      | some sv =>
        rw [q] at h2
        cases sv with
        | emp => exact h2.elim
        | dat d => exact h2.elim
        | own c =>
          dsimp only at h2
          obtain ⟨hl, h3⟩ := fin_if h2
          obtain ⟨a, o, z1, z2, z3, z4⟩ := A2.own j c q
          rw [hv] at z1; cases z1
          refine ⟨S2, _, o, c, vs, ds, rfl, A2.le, z2, z3, z4, rl, hl, ?_⟩
          revert h3
          generalize F c ds = r
          intro h3
          cases r with
          | stuck => exact h3.elim
          | ok r c' =>
            intro w H' S' o' le x y1 y2 y3 rr
            obtain ⟨A3, e3⟩ := A2.backB q hv le x y1 y2 y3
            refine h3 H' S' A3 e3 w ?_
            cases rr with
            | dat r => exact .dat r
            | fr h0 hp n r =>
              refine .fr (e2.al _ h0) hp n (fun z => ?_) r
              obtain ⟨i, c1, w1, w2⟩ := z
              rcases set_get w1 with ⟨w3, _⟩ | ⟨_, w3⟩
              · subst w3
                rw [hv] at w2
                cases w2
                rw [z2] at h0; cases h0
              · obtain ⟨o, w4⟩ := A2.own_some ⟨i, c1, w3, w2⟩
                rw [h0] at w4; cases w4
/-! ### raise -/
def mRaise (c : Nat) : DS → SRes := fun τ => .err c τ
theorem ds_raise {k : Nat → Bool} {c : Nat} {m : Str} {i : Nat} {B newId initId : String} {bmB : List Value} (hc : X.calm = true) (tk : Takes X W) (Fb : ExcBaseFacts B newId initId bmB) (q : PySem.W.excIn X.K (g c) bmB newId = true) (gC : X.mg x = some (.ref (g c))) (kC : PySem.W.keepIn X.K (.ref (g c)) = true) (r : Raises X (.ref (g c))) (hg : Gl X x)
    {pos3 : Pos} (hdb : (x == ("__debug__" : Str)) = false := by decide) : DSt X g W k (.Raise (some (.Call (.Name x p) [.Constant (.str m) i p2] [] pos)) none pos3) (mRaise c) :=
  ⟨PS.imp (ps_raise hc tk (pmk_own Fb q gC kC r hg hdb)) fun D σ H ⟨τ, S, A, h⟩ => h σ H S A .refl .refl⟩
end
end DL

/-! DL6: list comprehensions. -/
namespace DL
open PySem PySem.Spec PyProof.Rows L2

def wipeT (τ : DS) : List Nat → DS
  | [] => τ
  | v :: vs => (wipeT τ vs).set v .emp
/-- the block's own slots as they were ahead of it -/
def unwipe (τ τ' : DS) : List Nat → DS
  | [] => τ'
  | v :: vs => match τ[v]? with
    | some sv => (unwipe τ τ' vs).set v sv
    | none => unwipe τ τ' vs
theorem wipeT_length (τ : DS) : ∀ vs, (wipeT τ vs).length = τ.length
  | [] => rfl
  | v :: vs => by unfold wipeT; rw [List.length_set, wipeT_length τ vs]
theorem wipeT_get {τ : DS} {i : Nat} {x : SV} : ∀ {vs : List Nat}, (wipeT τ vs)[i]? = some x → x ≠ .emp → τ[i]? = some x ∧ i ∉ vs
  | [], h, _ => ⟨h, by simp⟩
  | v :: vs, h, hx => by
    unfold wipeT at h
    by_cases hi : v = i
    · subst hi
      by_cases hl : v < (wipeT τ vs).length
      · rw [List.getElem?_set_self hl] at h; cases h; exact absurd rfl hx
      · rw [List.getElem?_eq_none (by simpa using hl)] at h; cases h
    · rw [List.getElem?_set_ne hi] at h
      obtain ⟨h1, h2⟩ := wipeT_get h hx
      exact ⟨h1, by simp only [List.mem_cons, not_or]; exact ⟨fun e => hi e.symm, h2⟩⟩
theorem wipeT_out {τ : DS} {i : Nat} : ∀ {vs : List Nat}, i ∉ vs → (wipeT τ vs)[i]? = τ[i]?
  | [], _ => rfl
  | v :: vs, h => by
    simp only [List.mem_cons, not_or] at h
    unfold wipeT
    rw [List.getElem?_set_ne (fun e => h.1 e.symm)]
    exact wipeT_out h.2
theorem wipe_out {σ : St} {i : Nat} : ∀ {vs : List Nat}, i ∉ vs → (wipe σ vs)[i]? = σ[i]?
  | [], _ => rfl
  | v :: vs, h => by
    simp only [List.mem_cons, not_or] at h
    unfold wipe
    rw [List.getElem?_set_ne (fun e => h.1 e.symm)]
    exact wipe_out h.2
theorem wipe_in {σ : St} {i : Nat} : ∀ {vs : List Nat}, i ∈ vs → i < σ.length → (wipe σ vs)[i]? = some none
  | v :: vs, h, hl => by
    unfold wipe
    by_cases hi : v = i
    · subst hi
      rw [List.getElem?_set_self (by rw [wipe_length]; exact hl)]
    · rw [List.getElem?_set_ne hi]
      refine wipe_in ?_ hl
      rcases List.mem_cons.mp h with e | h
      · exact absurd e.symm hi
      · exact h
theorem unwipe_length {τ τ' : DS} : ∀ vs, (unwipe τ τ' vs).length = τ'.length
  | [] => rfl
  | v :: vs => by
    unfold unwipe
    split
    · rw [List.length_set, unwipe_length vs]
    · exact unwipe_length vs
theorem unwipe_out {τ τ' : DS} {i : Nat} : ∀ {vs : List Nat}, i ∉ vs → (unwipe τ τ' vs)[i]? = τ'[i]?
  | [], _ => rfl
  | v :: vs, h => by
    simp only [List.mem_cons, not_or] at h
    unfold unwipe
    split
    · rw [List.getElem?_set_ne (fun e => h.1 e.symm)]
      exact unwipe_out h.2
    · exact unwipe_out h.2
theorem unwipe_in {τ τ' : DS} {i : Nat} (hl : τ.length = τ'.length) : ∀ {vs : List Nat}, i ∈ vs → (unwipe τ τ' vs)[i]? = τ[i]?
  | v :: vs, h => by
    unfold unwipe
    by_cases hi : v = i
    · subst hi
      cases q : τ[v]? with
      | none =>
        have h1 : τ.length ≤ v := List.getElem?_eq_none_iff.mp q
        dsimp only
        rw [List.getElem?_eq_none]
        rw [unwipe_length]; omega
      | some sv =>
        have h1 : v < τ.length := (List.getElem?_eq_some_iff.mp q).1
        dsimp only
        rw [List.getElem?_set_self (by rw [unwipe_length]; omega)]
    · have hm : i ∈ vs := by
        rcases List.mem_cons.mp h with e | h
        · exact absurd e.symm hi
        · exact h
      have ih := unwipe_in (τ := τ) (τ' := τ') hl hm
      split
      · rw [List.getElem?_set_ne hi]; exact ih
      · exact ih

section
variable {g : Gm} {K : PySem.W.Frag} {W : WX} {α β : Type} {σ σ1 σ2 : St} {τ τ1 τ2 : DS} {H0 H S H1 S1 H' S' : Hp} {v : V} {vs : List Nat}
theorem own_wipe {a : Addr} (h : Own (wipe σ vs) (wipeT τ vs) a) : Own σ τ a ∧ ∃ i c, i ∉ vs ∧ τ[i]? = some (SV.own c) ∧ σ[i]? = some (some (.ref a)) := by
  obtain ⟨i, c, e1, e2⟩ := h
  obtain ⟨h1, h2⟩ := wipeT_get e1 (by simp)
  rw [wipe_out h2] at e2
  exact ⟨⟨i, c, h1, e2⟩, i, c, h2, h1, e2⟩
theorem Abs.wipe (A : Abs g K σ H τ S) (vs : List Nat) : Abs g K (wipe σ vs) H (wipeT τ vs) S where
  le := A.le
  len := by rw [wipe_length, wipeT_length]; exact A.len
  dat := fun i d e => by
    obtain ⟨h1, h2⟩ := wipeT_get e (by simp)
    rw [wipe_out h2]; exact A.dat i d h1
  own := fun i c e => by
    obtain ⟨h1, h2⟩ := wipeT_get e (by simp)
    rw [wipe_out h2]; exact A.own i c h1
  inj := fun i j c c' e1 e2 e3 => by
    obtain ⟨h1, h2⟩ := wipeT_get e1 (by simp)
    obtain ⟨h3, h4⟩ := wipeT_get e2 (by simp)
    rw [wipe_out h2, wipe_out h4] at e3
    exact A.inj i j c c' h1 h3 e3
/-- behind a block -/
theorem Abs.unwipe (A : Abs g K σ H τ S) (A2 : Abs g K σ2 H' τ2 S') (e : Ext (L2.wipe σ vs) (wipeT τ vs) H S σ2 τ2 H' S') (hw : L2.wipe σ2 vs = L2.wipe σ vs) :
    Abs g K σ H' (DL.unwipe τ τ2 vs) S' ∧ Ext σ τ H S σ (DL.unwipe τ τ2 vs) H' S' := by
  have hσ : ∀ j, j ∉ vs → σ2[j]? = σ[j]? := fun j hj => by
    rw [← wipe_out (σ := σ2) hj, hw, wipe_out hj]
  have hl2 : σ2.length = σ.length := by
    have := congrArg List.length hw
    rw [wipe_length, wipe_length] at this
    exact this
  have hl : τ.length = τ2.length := by rw [← A.len, ← A2.len, hl2]
  have ghost : ∀ {j : Nat} {c : Cn} {a : Addr}, j ∈ vs → τ[j]? = some (.own c) → σ[j]? = some (some (.ref a)) → ¬ Own (L2.wipe σ vs) (wipeT τ vs) a := fun {j c a} hj h1 h2 z => by
    obtain ⟨_, i, c', hi, z1, z2⟩ := own_wipe z
    have := A.inj j i c c' h1 z1 (h2.trans z2.symm)
    subst this
    exact hi hj
  refine ⟨⟨A2.le, by rw [unwipe_length, ← hl]; exact A.len, fun j d q => ?_, fun j c q => ?_, fun i j c c' q1 q2 q3 => ?_⟩, e.st, fun a o h n no => e.pv a o h n fun z => no (own_wipe z).1, fun a ⟨j, c, q1, q2⟩ => ?_, e.al⟩
  · by_cases hj : j ∈ vs
    · rw [unwipe_in hl hj] at q
      obtain ⟨w, e1, r⟩ := A.dat j d q
      exact ⟨w, e1, r.mono e.st⟩
    · rw [unwipe_out hj] at q
      obtain ⟨w, e1, r⟩ := A2.dat j d q
      rw [hσ j hj] at e1
      exact ⟨w, e1, r⟩
  · by_cases hj : j ∈ vs
    · rw [unwipe_in hl hj] at q
      obtain ⟨a, o, e1, e2, n, r⟩ := A.own j c q
      obtain ⟨z1, z2⟩ := e.pv a o e2 n (ghost hj q e1)
      exact ⟨a, o, e1, z1, z2, r.mono e.st⟩
    · rw [unwipe_out hj] at q
      obtain ⟨a, o, e1, e2⟩ := A2.own j c q
      rw [hσ j hj] at e1
      exact ⟨a, o, e1, e2⟩
  · have mix : ∀ {i j : Nat} {c c' : Cn}, i ∈ vs → j ∉ vs → τ[i]? = some (.own c) → τ2[j]? = some (.own c') → σ[i]? = σ[j]? → False := by
      intro i j c c' hi hj z1 z2 z3
      obtain ⟨a, o, e1, e2, _⟩ := A.own i c z1
      rw [e1] at z3
      rcases e.ow a ⟨j, c', z2, (hσ j hj).trans z3.symm⟩ with z | z
      · exact ghost hi z1 e1 z
      · rw [e2] at z; cases z
    by_cases hi : i ∈ vs <;> by_cases hj : j ∈ vs
    · rw [unwipe_in hl hi] at q1
      rw [unwipe_in hl hj] at q2
      exact A.inj i j c c' q1 q2 q3
    · rw [unwipe_in hl hi] at q1
      rw [unwipe_out hj] at q2
      exact (mix hi hj q1 q2 q3).elim
    · rw [unwipe_out hi] at q1
      rw [unwipe_in hl hj] at q2
      exact (mix hj hi q2 q1 q3.symm).elim
    · rw [unwipe_out hi] at q1
      rw [unwipe_out hj] at q2
      exact A2.inj i j c c' q1 q2 (by rw [hσ i hi, hσ j hj]; exact q3)
  · by_cases hj : j ∈ vs
    · rw [unwipe_in hl hj] at q1
      exact .inl ⟨j, c, q1, q2⟩
    · rw [unwipe_out hj] at q1
      rcases e.ow a ⟨j, c, q1, (hσ j hj).trans q2⟩ with z | z
      · exact .inl (own_wipe z).1
      · exact .inr z
theorem Ext.wipe (A : Abs g K σ H τ S) : Ext σ τ H S (L2.wipe σ vs) (wipeT τ vs) H S := ⟨Same.refl _, fun _ _ h n _ => ⟨h, n⟩, fun _ h => .inl (own_wipe h).1, fun _ h => h⟩
/-- an object of our own that stands in no slot is changed -/
theorem Abs.poke (A : Abs g K σ H τ S) {p : Addr} {o : HO} (n : S p = none) (no : ¬ Own σ τ p) : Abs g K σ (upd H p o) τ S where
  le := fun b x e => by
    by_cases hb : b = p
    · subst hb; rw [n] at e; cases e
    · rw [upd_ne hb]; exact A.le _ _ e
  len := A.len
  dat := A.dat
  own := fun i c e => by
    obtain ⟨a, o', e1, h1, n1, r⟩ := A.own i c e
    have ne : a ≠ p := fun z => no (z ▸ ⟨i, c, e, e1⟩)
    exact ⟨a, o', e1, by rw [upd_ne ne]; exact h1, n1, r⟩
  inj := A.inj
theorem Ext.poke {σ0 : St} {τ0 : DS} {p : Addr} {o : HO} (e : Ext σ0 τ0 H0 S1 σ τ H S) (h0 : H0 p = none) : Ext σ0 τ0 H0 S1 σ τ (upd H p o) S where
  st := e.st
  pv := fun a x h n no => by
    obtain ⟨z1, z2⟩ := e.pv a x h n no
    exact ⟨by rw [upd_ne (ne_of_none h h0)]; exact z1, z2⟩
  ow := e.ow
  al := fun a z => by
    by_cases hb : a = p
    · rw [hb]; exact h0
    · rw [upd_ne hb] at z; exact e.al a z

theorem force_ok {r : RV} {d : D} {τ' : DS} (A : Abs g K σ H τ S) (e : Ext σ τ1 H1 S1 σ τ H S) (rv : RepW g K σ τ H1 H S v r) (h : force r τ = .ok d τ') : ∃ S', Abs g K σ H τ' S' ∧ Ext σ τ1 H1 S1 σ τ' H S' ∧ Rep g K S' v d ∧ Same S S' := by
  have h0 : FinP g K (fun _ _ _ _ => False) σ τ1 H1 S1 ((force r τ).bind fun d τ => .ok d τ) fun τ2 d2 _ _ => Res.ok d τ' = .ok d2 τ2 := by
    rw [h]
    exact fun _ _ _ _ => rfl
  obtain ⟨τ2, S2, d2, A2, e2, r2, sm, _, h2⟩ := FinP.force A e rv h0
  have z := h2 H S2 A2 e2
  cases z
  exact ⟨S2, A2, e2, r2, sm⟩
/-- in a block no exception leaves -/
def Res.calm (r : Res α) : Res α := match r with
  | .err _ _ => .stuck
  | r => r
abbrev WF : WX := fun _ _ _ _ => False
def compL (vs : List Nat) (mt : D → DS → Option DS) (mc : DS → Res Bool) (me : DS → Res RV) : List D → List D → DS → Res (List D)
  | [], acc, τ => .ok acc τ
  | x :: xs, acc, τ => match mt x (wipeT τ vs) with
    | none => .stuck
    | some τ1 => match mc τ1 with
      | .ok true τ2 => match ((me τ2).bind force) with
        | .ok d τ3 => if acc.length < bigN then compL vs mt mc me xs (acc ++ [d]) (unwipe τ τ3 vs) else .stuck
        | _ => .stuck
      | .ok false τ2 => compL vs mt mc me xs acc (unwipe τ τ2 vs)
      | _ => .stuck
def mLc (mi : DS → Res (List D)) (vs : List Nat) (mt : D → DS → Option DS) (mc : DS → Res Bool) (me : DS → Res RV) : DS → Res RV := fun τ => (mi τ).bind fun xs τ1 => (compL vs mt mc me xs [] τ1).bind fun ds τ2 => Res.ok (RV.fr (Cn.lst ds)) τ2
/-- what a def's comprehension asks -/
theorem lc_of {mi : DS → Res (List D)} {mt : D → DS → Option DS} {mc : DS → Res Bool} {me : DS → Res RV} {Q : VK} (h : LE g K W (mLc mi vs mt mc me) σ H Q) :
    tLc (LI g K W mi) (LG g K (fun i => !(vs.contains i)) mt) (LT g K WF mc) (LE g K WF me) vs σ H Q := by
  obtain ⟨τ, S, A, h⟩ := h
  refine ⟨τ, S, A, (FinP.bind0 h).mono fun τ1 xs H1 S1 A1 e1 h1 J hJ D hD => ?_⟩
  have hD0 : H D = none := e1.al D hD
  refine ⟨fun i m H2 => m = xs.length - i ∧ i ≤ xs.length ∧ ∃ τ2 S2 acc accV, Abs g K σ H2 τ2 S2 ∧ Ext σ τ H S σ τ2 H2 S2 ∧ Same S1 S2 ∧ H2 D = some (.lst accV) ∧ S2 D = none ∧ ¬ Own σ τ2 D ∧ RepL g K S2 accV acc ∧
      FinP g K W σ τ H S ((compL vs mt mc me (xs.drop i) acc τ2).bind fun ds τ2 => Res.ok (RV.fr (Cn.lst ds)) τ2) fun τ' r H' S' => ∀ v, RepV g K σ τ' H H' S' v r → Q v H',
    ⟨xs.length, by omega, Nat.zero_le _, τ1, S1, [], [], A1.priv hD _, e1.trans (A1.ext_priv hD _), Same.refl _, upd_same, A1.sn hD, Own.not_new A1 hD, .nil, h1⟩, ?_⟩
  rintro i m H2 ⟨rfl, hi, τ2, S2, acc, accV, A2, e2, sm, hD2, nD, noD, rl, h2⟩
  obtain ⟨go, stop⟩ := hJ i H2 S2 sm A2.le
  by_cases hlt : i < xs.length
  · obtain ⟨g1, g2⟩ := go xs[i] (List.getElem?_eq_getElem hlt)
    rw [List.drop_eq_getElem_cons hlt] at h2
    unfold compL at h2
    refine .inr ⟨g1, fun H3 => ∃ τ3 S3 acc accV, Abs g K σ H3 τ3 S3 ∧ Ext σ τ H S σ τ3 H3 S3 ∧ Same S1 S3 ∧ H3 D = some (.lst accV) ∧ S3 D = none ∧ ¬ Own σ τ3 D ∧ RepL g K S3 accV acc ∧
      FinP g K W σ τ H S ((compL vs mt mc me (xs.drop (i + 1)) acc τ3).bind fun ds τ2 => Res.ok (RV.fr (Cn.lst ds)) τ2) fun τ' r H' S' => ∀ v, RepV g K σ τ' H H' S' v r → Q v H',
      fun H3 ⟨τ3, S3, q⟩ => ⟨xs.length - (i + 1), by omega, rfl, hlt, τ3, S3, q⟩, fun x H3 y => ?_⟩
    obtain ⟨S3, s1, s2, s3, rx, s4⟩ := g2 x H3 y
    obtain ⟨A3, e3⟩ := A2.step s1 s2 s3 s4
    have hD3 := s3 _ _ hD2
    have nD3 : S3 D = none := s4 D nD (by rw [hD2]; simp)
    have A4 := A3.wipe vs
    refine ⟨wipeT τ2 vs, S3, xs[i], A4, rx, ?_⟩
    cases q : mt xs[i] (wipeT τ2 vs) with
    | none => rw [q] at h2; exact h2.elim
    | some τ5 =>
      rw [q] at h2
      dsimp only at h2
      intro σ5 A5 e5 p5
      have hw : wipe σ5 vs = wipe σ vs := by
        refine List.ext_getElem? fun j => ?_
        have hl : σ5.length = σ.length := by rw [p5.1, wipe_length]
        by_cases hj : j ∈ vs
        · by_cases hlj : j < σ.length
          · rw [wipe_in hj (by omega), wipe_in hj hlj]
          · rw [List.getElem?_eq_none (by rw [wipe_length]; omega), List.getElem?_eq_none (by rw [wipe_length]; omega)]
        · rw [wipe_out hj, p5.2 j (by simp [hj])]
      refine ⟨hw, τ5, S3, A5, ?_⟩
      cases q2 : mc τ5 with
      | err c τ6 => rw [q2] at h2; exact h2.elim
      | stuck => rw [q2] at h2; exact h2.elim
      | ok b τ6 =>
        rw [q2] at h2
        intro H6 S6 A6 e6
        -- from the turn's start to behind the test
        have f6 : Ext (wipe σ vs) (wipeT τ2 vs) H3 S3 σ5 τ6 H6 S6 := e5.trans e6
        have ghost : ¬ Own (wipe σ vs) (wipeT τ2 vs) D := fun z => noD (own_wipe z).1
        cases b with
        | false =>
          refine iteF ?_
          obtain ⟨A7, e7⟩ := A3.unwipe A6 f6 hw
          obtain ⟨z1, z2⟩ := f6.pv D _ hD3 nD3 ghost
          have no7 : ¬ Own σ (unwipe τ2 τ6 vs) D := fun z => by
            rcases e7.ow D z with z | z
            · exact noD z
            · rw [hD3] at z; cases z
          exact ⟨_, S6, acc, accV, A7, (e2.trans e3).trans e7, (sm.trans s1).trans e7.st, z1, z2, no7, rl.mono (s1.trans e7.st), h2⟩
        | true =>
          refine iteT ⟨τ6, S6, A6, ?_⟩
          dsimp only at h2
          cases q3 : me τ6 with
          | err c τ7 => rw [q3] at h2; exact h2.elim
          | stuck => rw [q3] at h2; exact h2.elim
          | ok r τ7 =>
            rw [q3] at h2
            intro H7 S7 A7 e7 y rv
            simp only [Res.bind] at h2
            cases q4 : force r τ7 with
            | err c τ8 => rw [q4] at h2; exact h2.elim
            | stuck => rw [q4] at h2; exact h2.elim
            | ok d τ8 =>
              rw [q4] at h2
              dsimp only at h2
              obtain ⟨S8, A8, e8, rd, sm8⟩ := force_ok A7 e7 (.inl rv) q4
              have f8 : Ext (wipe σ vs) (wipeT τ2 vs) H3 S3 σ5 τ8 H7 S8 := f6.trans e8
              obtain ⟨A9, e9⟩ := A3.unwipe A8 f8 hw
              obtain ⟨z1, z2⟩ := f8.pv D _ hD3 nD3 ghost
              have no9 : ¬ Own σ (unwipe τ2 τ8 vs) D := fun z => by
                rcases e9.ow D z with z | z
                · exact noD z
                · rw [hD3] at z; cases z
              by_cases hlen : acc.length < bigN
              · rw [if_pos hlen] at h2
                refine ⟨accV, z1, by rw [rl.length]; exact Nat.lt_of_lt_of_le hlen bigN_le, ?_⟩
                exact ⟨_, S8, acc ++ [d], accV ++ [y], A9.poke z2 no9, ((e2.trans e3).trans e9).poke hD0, (sm.trans s1).trans e9.st, upd_same, z2, no9, (rl.mono (s1.trans e9.st)).append (.cons rd .nil), h2⟩
              · rw [if_neg hlen] at h2; exact h2.elim
  · have e : i = xs.length := by omega
    subst e
    rw [List.drop_length] at h2
    unfold compL at h2
    exact .inl ⟨stop (Nat.le_refl _), FinP.at h2 A2 e2 _ (.fr hD0 hD2 nD noD (.lst rl))⟩
end
end DL

/-! DL7: rules: comprehensions, operators, subscripts, built-ins, methods of lists. -/
namespace DL
open PySem PySem.Spec PyProof.Rows L2

section
variable {X : Cx} {g : Gm} {W : WX} {k : Nat → Bool} {elt tg iter : Expr} {ifs : List Expr} {scope : Scope} {own : List (Str × Nat)} {mi : DS → Res (List D)} {mt : D → DS → Option DS} {mc : DS → Res Bool} {me : DS → Res RV} {pos : Pos}
structure DTs (X : Cx) (g : Gm) (W : WX) (ifs : List Expr) (m : DS → Res Bool) : Prop where
  pts : PTs X ifs (LT g X.K W m)
theorem PTs.imp {X : Cx} {e : List Expr} {t t' : TT} (h : PTs X e t) (i : ∀ σ H Q, t' σ H Q → t σ H Q) : PTs X e t' := ⟨fun pins s σ H Q I q => h.run pins s σ H Q I (i σ H Q q)⟩
def mYes : DS → Res Bool := fun τ => .ok true τ
theorem dts_nil : DTs X g W [] mYes := ⟨PTs.imp pts_nil fun _ _ _ h => LT.ok h⟩
theorem dts_one {c : Expr} (h : DT X g W c mc) : DTs X g W [c] mc := ⟨pts_one h.pt⟩
abbrev outs (own : List (Str × Nat)) : Nat → Bool := fun i => !((own.map (·.2)).contains i)
theorem de_lc (hc : X.calm = true) (hN : X.N.Nodup) (hi : DI X g W tg iter mi) (ok : BlkOk X.N X.env.scope scope own)
    (hg : ∀ (s : Shared) (H : Hp) (C : Addr) (cl : List (Str × Addr)) (fp : List Addr), DG (X.blk s H scope (compEnvC scope cl C X.env) fp) g (outs own) tg mt) (ht : ∀ (s : Shared) (H : Hp) (C : Addr) (cl : List (Str × Addr)) (fp : List Addr), DTs (X.blk s H scope (compEnvC scope cl C X.env) fp) g WF ifs mc)
    (he : ∀ (s : Shared) (H : Hp) (C : Addr) (cl : List (Str × Addr)) (fp : List Addr), DE (X.blk s H scope (compEnvC scope cl C X.env) fp) g WF elt me) (hs : ∀ x, foldedSetIterable iter X.env x = pure x := by intro _; rfl) :
    DE X g W (.ListComp elt [⟨tg, iter, ifs, 0⟩] scope pos) (mLc mi (own.map (·.2)) mt mc me) :=
  ⟨PE.imp (pe_lc hc hN hi.pi ok (fun s H C cl fp => (hg s H C cl fp).pg) (fun s H C cl fp => (ht s H C cl fp).pts) (fun s H C cl fp => (he s H C cl fp).pe) hs) fun _ _ _ h => lc_of h⟩
/-- y = [..] on one line, y a local -/
theorem ds_setLc (i : Nat) {y : Str} {py spos : Pos} (hc : X.calm = true) (hN : X.N.Nodup) (hi : DI X g W tg iter mi) (ok : BlkOk X.N X.env.scope scope own)
    (hg : ∀ (s : Shared) (H : Hp) (C : Addr) (cl : List (Str × Addr)) (fp : List Addr), DG (X.blk s H scope (compEnvC scope cl C X.env) fp) g (outs own) tg mt) (ht : ∀ (s : Shared) (H : Hp) (C : Addr) (cl : List (Str × Addr)) (fp : List Addr), DTs (X.blk s H scope (compEnvC scope cl C X.env) fp) g WF ifs mc)
    (he : ∀ (s : Shared) (H : Hp) (C : Addr) (cl : List (Str × Addr)) (fp : List Addr), DE (X.blk s H scope (compEnvC scope cl C X.env) fp) g WF elt me) (hk : k i = false := by rfl) (hy : X.N[i]? = some y := by rfl) (hyl : X.env.scope.names.lookup y = some .local := by rfl)
    (hsw : swapsWith (.ListComp elt [⟨tg, iter, ifs, 0⟩] scope pos) (some (.Name y py)) spos.line X.env = pure true := by exact sw_true rfl rfl rfl (by decide +kernel)) (hs : ∀ x, foldedSetIterable iter X.env x = pure x := by intro _; rfl) :
    DSt X g W k (.Assign [.Name y py] (.ListComp elt [⟨tg, iter, ifs, 0⟩] scope pos) spos) (mSet i (mLc mi (own.map (·.2)) mt mc me)) := by
  refine ⟨PS.imp (ps_setLc hc hN hy hyl hsw hi.pi ok (fun s H C cl fp => (hg s H C cl fp).pg) (fun s H C cl fp => (ht s H C cl fp).pts) (fun s H C cl fp => (he s H C cl fp).pe) hs) fun D σ H ⟨τ, S, A, h⟩ => lc_of ⟨τ, S, A, ?_⟩⟩
  revert h
  unfold mSet
  generalize mLc mi (own.map (·.2)) mt mc me τ = r
  intro h
  cases r with
  | stuck => exact h
  | err c τ1 => exact fun H1 S1 A1 e1 => h _ H1 S1 A1 e1 .refl
  | ok r τ1 => exact fun H1 S1 A1 e1 v rv => put_ok hk A1 e1 rv h
end

/-! ### operators -/
def addD : D → D → Option RV
  | .int i, .int j => some (.dat (.int (i + j)))
  | .str a, .str b => if a.length + b.length ≤ bigN then some (.dat (.str (a ++ b))) else none
  | .lst a, .lst b => if a.length + b.length ≤ bigN then some (.fr (.lst (a ++ b))) else none
  | .tup a, .tup b => if a.length + b.length ≤ bigN then some (.dat (.tup (a ++ b))) else none
  | _, _ => none
def subD : D → D → Option RV
  | .int i, .int j => some (.dat (.int (i - j)))
  | _, _ => none
instance {i j : Int} : Decidable (CMul i j) := by unfold CMul; infer_instance
def mulD : D → D → Option RV
  | .int i, .int j => if CMul i j then some (.dat (.int (i * j))) else none
  | .lst a, .int k => if -1000000 ≤ k ∧ k ≤ 1000000 ∧ a.length * k.toNat ≤ bigN then some (.fr (.lst (List.replicate k.toNat a).flatten)) else none
  | _, _ => none
/-- // by a number other than 0 -/
def fdivD : D → D → Option RV
  | .int i, .int j => if j ≠ 0 ∧ j.natAbs < 1073741824 then some (.dat (.int (i.fdiv j))) else if 0 < j ∧ j < 2 ^ 250 then some (.dat (.int (i.fdiv j))) else none
  | _, _ => none
def modD : D → D → Option RV
  | .int i, .int j => if j ≠ 0 then some (.dat (.int (i.fmod j))) else none
  | _, _ => none
def powD : D → D → Option RV
  | .int i, .int j => if 0 ≤ j ∧ j ≤ 1000000 ∧ i.natAbs < 2 ^ 64 then some (.dat (.int (i ^ j.toNat))) else none
  | _, _ => none
def negD : D → Option RV
  | .int i => some (.dat (.int (-i)))
  | _ => none
section
variable {X : Cx} {g : Gm}
theorem repD_nil {K : PySem.W.Frag} {S : Hp} {vs : List V} (r : RepL g K S vs []) : vs = [] := by cases r; rfl
theorem RepL.repl {K : PySem.W.Frag} {S : Hp} {vs : List V} {ds : List D} (r : RepL g K S vs ds) : ∀ n : Nat, RepL g K S (List.replicate n vs).flatten (List.replicate n ds).flatten
  | 0 => .nil
  | n + 1 => by
    rw [List.replicate_succ, List.replicate_succ, List.flatten_cons, List.flatten_cons]
    exact r.append (RepL.repl r n)
theorem EndV.if_ {c : Prop} [Decidable c] {K : PySem.W.Frag} {σ : St} {τ : DS} {H S : Hp} {o : Option RV} {Q : VK} (h : EndV g K σ τ H S (if c then o else none) Q) : c ∧ EndV g K σ τ H S o Q := by
  by_cases hc : c
  · rw [if_pos hc] at h; exact ⟨hc, h⟩
  · rw [if_neg hc] at h; exact h.elim
theorem opD_add : OpD X g (binaryOp .Add) addD := by
  intro pins s σ H τ S x y v u dx dy Q I rx ry A sx sy h
  unfold addD at h
  split at h
  · obtain rfl := sx.int
    obtain rfl := sy.int
    exact op_add pins s σ H _ _ v u Q I rx ry ⟨_, _, rfl, rfl, h.here A (.int _)⟩
  · obtain rfl := sx.str
    obtain rfl := sy.str
    obtain ⟨hl, h⟩ := h.if_
    exact op_add_str pins s σ H _ _ v u Q I rx ry ⟨_, _, rfl, rfl, Nat.le_trans hl bigN_le, h.here A (.str _)⟩
  · obtain ⟨a, va, rfl, ha, ra⟩ := sx.lst A.le
    obtain ⟨b, vb, rfl, hb, rb⟩ := sy.lst A.le
    obtain ⟨hl, h⟩ := h.if_
    exact op_cat pins s σ H _ _ v u Q I rx ry ⟨_, _, _, _, rfl, rfl, ha, hb, by rw [ra.length, rb.length]; exact Nat.le_trans hl bigN_le, h.lst A (ra.append rb)⟩
  · rename_i da db
    obtain ⟨a, va, rfl, ha, ra⟩ := sx.tup A.le
    obtain ⟨b, vb, rfl, hb, rb⟩ := sy.tup A.le
    obtain ⟨hl, h⟩ := h.if_
    refine op_catA pins s σ H _ _ v u Q I rx ry ⟨_, _, _, _, rfl, rfl, ha, hb, by rw [ra.length, rb.length]; exact Nat.le_trans hl bigN_le, fun z => ?_, fun _ z => ?_, fun _ _ => h.tup A (ra.append rb)⟩
    · subst z
      cases ra
      generalize hd : D.tup db = d at sy
      cases sy with
      | rep r => subst hd; exact h.here A r
      | own h r => cases r <;> cases hd
    · subst z
      cases rb
      rw [List.append_nil] at h
      generalize hd : D.tup da = d at sx
      cases sx with
      | rep r => subst hd; exact h.here A r
      | own h r => cases r <;> cases hd
  · exact h.elim
theorem opD_sub : OpD X g (binaryOp .Sub) subD := by
  intro pins s σ H τ S x y v u dx dy Q I rx ry A sx sy h
  unfold subD at h
  split at h
  · obtain rfl := sx.int
    obtain rfl := sy.int
    exact op_sub pins s σ H _ _ v u Q I rx ry ⟨_, _, rfl, rfl, h.here A (.int _)⟩
  · exact h.elim
theorem opD_mul : OpD X g (binaryOp .Mult) mulD := by
  intro pins s σ H τ S x y v u dx dy Q I rx ry A sx sy h
  unfold mulD at h
  split at h
  · obtain rfl := sx.int
    obtain rfl := sy.int
    obtain ⟨hl, h⟩ := h.if_
    exact op_mul pins s σ H _ _ v u Q I rx ry ⟨_, _, rfl, rfl, hl, h.here A (.int _)⟩
  · obtain ⟨a, va, rfl, ha, ra⟩ := sx.lst A.le
    obtain rfl := sy.int
    obtain ⟨⟨h1, h2, hl⟩, h⟩ := h.if_
    exact op_rep pins s σ H _ _ v u Q I rx ry ⟨_, _, _, rfl, rfl, ha, by omega, by omega, by rw [ra.length]; exact Nat.le_trans hl bigN_le, h.lst A (ra.repl _)⟩
  · exact h.elim
theorem opD_fdiv : OpD X g (binaryOp .FloorDiv) fdivD := by
  intro pins s σ H τ S x y v u dx dy Q I rx ry A sx sy h
  unfold fdivD at h
  split at h
  · rename_i i j
    obtain rfl := sx.int
    obtain rfl := sy.int
    by_cases hc : j ≠ 0 ∧ j.natAbs < 1073741824
    · rw [if_pos hc] at h
      exact op_fdivN pins s σ H _ _ v u Q I rx ry ⟨_, _, rfl, rfl, hc, h.here A (.int _)⟩
    · rw [if_neg hc] at h
      obtain ⟨⟨h1, h2⟩, h⟩ := h.if_
      refine op_fdivW pins s σ H _ _ v u Q I rx ry ⟨_, _, rfl, rfl, wide_div (b := 250) h1 ?_ (by decide) (by decide), ?_⟩
      · have e : (2 : Int) ^ 250 = ((2 ^ 250 : Nat) : Int) := by rw [Int.natCast_pow]; rfl
        rw [e] at h2
        omega
      · show Q (.int (i / j)) H
        rw [← Int.fdiv_eq_ediv_of_nonneg i (Int.le_of_lt h1)]
        exact h.here A (.int _)
  · exact h.elim
theorem opD_mod : OpD X g (binaryOp .Mod) modD := by
  intro pins s σ H τ S x y v u dx dy Q I rx ry A sx sy h
  unfold modD at h
  split at h
  · obtain rfl := sx.int
    obtain rfl := sy.int
    obtain ⟨hl, h⟩ := h.if_
    exact op_modN pins s σ H _ _ v u Q I rx ry ⟨_, _, rfl, rfl, hl, h.here A (.int _)⟩
  · exact h.elim
theorem opD_pow : OpD X g (binaryOp .Pow) powD := by
  intro pins s σ H τ S x y v u dx dy Q I rx ry A sx sy h
  unfold powD at h
  split at h
  · obtain rfl := sx.int
    obtain rfl := sy.int
    obtain ⟨hl, h⟩ := h.if_
    exact op_pow pins s σ H _ _ v u Q I rx ry ⟨_, _, rfl, rfl, hl, h.here A (.int _)⟩
  · exact h.elim
theorem unD_neg : UnD X g (unaryOp .USub) negD := by
  intro pins s σ H τ S x v dx Q I rx A sx h
  unfold negD at h
  split at h
  · obtain rfl := sx.int
    exact un_neg pins s σ H _ v Q I rx ⟨_, rfl, h.here A (.int _)⟩
  · exact h.elim

/-! ### comparisons -/
def cmpI (p : Int → Int → Bool) : D → D → Option RV
  | .int i, .int j => some (.dat (.bl (p i j)))
  | _, _ => none
theorem opD_cmpI {op : CmpOp} {p : Int → Int → Bool} (h0 : OpR X (compareOp op) (rI0 fun i j => .bl (p i j))) : OpD X g (compareOp op) (cmpI p) := by
  intro pins s σ H τ S x y v u dx dy Q I rx ry A sx sy h
  unfold cmpI at h
  split at h
  · obtain rfl := sx.int
    obtain rfl := sy.int
    exact h0 pins s σ H _ _ v u Q I rx ry ⟨_, _, rfl, rfl, h.here A (.bl _)⟩
  · exact h.elim
abbrev leD := cmpI fun i j => decide (i ≤ j)
abbrev gtD := cmpI fun i j => decide (j < i)
abbrev geD := cmpI fun i j => decide (j ≤ i)
theorem opD_le : OpD X g (compareOp .LtE) leD := opD_cmpI op_le
theorem opD_gt : OpD X g (compareOp .Gt) gtD := opD_cmpI op_gt
theorem opD_ge : OpD X g (compareOp .GtE) geD := opD_cmpI op_ge
/-- all of them ints -/
def allInts : List D → Option (List Int)
  | [] => some []
  | .int i :: ds => (allInts ds).map (i :: ·)
  | _ :: _ => none
theorem allInts_eq : ∀ {ds : List D} {ns : List Int}, allInts ds = some ns → ds = ns.map D.int
  | [], ns, h => by cases h; rfl
  | .int i :: ds, ns, h => by
    unfold allInts at h
    cases q : allInts ds with
    | none => rw [q] at h; cases h
    | some ms => rw [q] at h; cases h; rw [allInts_eq q]; rfl
  | .non :: _, _, h => by cases h
  | .bl _ :: _, _, h => by cases h
  | .str _ :: _, _, h => by cases h
  | .sym _ :: _, _, h => by cases h
  | .ref _ :: _, _, h => by cases h
  | .tup _ :: _, _, h => by cases h
  | .lst _ :: _, _, h => by cases h
  | .rol _ :: _, _, h => by cases h
  | .dct _ :: _, _, h => by cases h
theorem allInts_map (ns : List Int) : allInts (ns.map D.int) = some ns := by
  induction ns with
  | nil => rfl
  | cons n ns ih => show (allInts (ns.map D.int)).map (n :: ·) = _; rw [ih]; rfl
def ltD : D → D → Option RV
  | .int i, .int j => some (.dat (.bl (decide (i < j))))
  | .tup a, .tup b => (allInts a).bind fun ns => (allInts b).bind fun ms => some (.dat (.bl (HT.lexLt ns ms)))
  | _, _ => none
theorem EndV.bind_ {α : Type} {K : PySem.W.Frag} {σ : St} {τ : DS} {H S : Hp} {o : Option α} {f : α → Option RV} {Q : VK} (h : EndV g K σ τ H S (o.bind f) Q) : ∃ a, o = some a ∧ EndV g K σ τ H S (f a) Q := by
  cases o with
  | none => exact h.elim
  | some a => exact ⟨a, rfl, h⟩
theorem opD_lt (hu : X.A.units + 64 < cLine) : OpD X g (compareOp .Lt) ltD := by
  intro pins s σ H τ S x y v u dx dy Q I rx ry A sx sy h
  unfold ltD at h
  split at h
  · obtain rfl := sx.int
    obtain rfl := sy.int
    exact op_lt pins s σ H _ _ v u Q I rx ry ⟨_, _, rfl, rfl, h.here A (.bl _)⟩
  · obtain ⟨a, va, rfl, ha, ra⟩ := sx.tup A.le
    obtain ⟨b, vb, rfl, hb, rb⟩ := sy.tup A.le
    obtain ⟨ns, e1, h⟩ := h.bind_
    obtain ⟨ms, e2, h⟩ := h.bind_
    rw [allInts_eq e1] at ra
    rw [allInts_eq e2] at rb
    have z1 := ra.ints
    have z2 := rb.ints
    subst z1 z2
    exact op_ltT (by omega) pins s σ H _ _ v u Q I rx ry ⟨_, _, _, _, rfl, rfl, ha, hb, h.here A (.bl _)⟩
  · exact h.elim

/-! ### equality, membership -/
mutual
def pyD : D → Option PyData
  | .non => some .none
  | .bl b => some (.bool b)
  | .int i => some (.int i)
  | .str x => some (.str x)
  | .tup ds => (pyDs ds).map .tuple
  | .lst ds => (pyDs ds).map .list
  | _ => none
def pyDs : List D → Option (List PyData)
  | [] => some []
  | d :: ds => (pyD d).bind fun p => (pyDs ds).map (p :: ·)
end
mutual
theorem Rep.dp {K : PySem.W.Frag} {S : Hp} : ∀ {d : D} {v : V} {p : PyData}, Rep g K S v d → pyD d = some p → Dp K S v p
  | .non, _, _, .non, h => by cases h; exact .non
  | .bl _, _, _, .bl _, h => by cases h; exact .bl _
  | .int _, _, _, .int _, h => by cases h; exact .int _
  | .str _, _, _, .str _, h => by cases h; exact .str _
  | .tup ds, _, _, .tup hs r, h => by
    unfold pyD at h
    cases q : pyDs ds with
    | none => rw [q] at h; cases h
    | some ps => rw [q] at h; cases h; exact .tup hs (RepL.dp r q)
  | .lst ds, _, _, .lst hs r, h => by
    unfold pyD at h
    cases q : pyDs ds with
    | none => rw [q] at h; cases h
    | some ps => rw [q] at h; cases h; exact .lst (SqL.of hs) (RepL.dp r q)
theorem RepL.dp {K : PySem.W.Frag} {S : Hp} : ∀ {ds : List D} {vs : List V} {ps : List PyData}, RepL g K S vs ds → pyDs ds = some ps → DpAll K S vs ps
  | [], _, _, .nil, h => by cases h; exact .nil
  | d :: ds, _, _, .cons r rs, h => by
    unfold pyDs at h
    cases q : pyD d with
    | none => rw [q] at h; cases h
    | some p =>
      rw [q] at h
      dsimp only [Option.bind_some] at h
      cases q2 : pyDs ds with
      | none => rw [q2] at h; cases h
      | some ps => rw [q2] at h; cases h; exact .cons (Rep.dp r q) (RepL.dp rs q2)
end
mutual
theorem Dp.up {K : PySem.W.Frag} {S H : Hp} (le : Same S H) : ∀ {p : PyData} {v : V}, Dp K S v p → Dp K H v p
  | _, _, .non => .non
  | _, _, .bl _ => .bl _
  | _, _, .int _ => .int _
  | _, _, .str _ => .str _
  | _, _, .lst h r => .lst (le.seq h) (DpAll.up le r)
  | _, _, .tup h r => .tup (Same.seqT le h) (DpAll.up le r)
theorem DpAll.up {K : PySem.W.Frag} {S H : Hp} (le : Same S H) : ∀ {p : List PyData} {v : List V}, DpAll K S v p → DpAll K H v p
  | _, _, .nil => .nil
  | _, _, .cons h r => .cons (Dp.up le h) (DpAll.up le r)
end
theorem Shown.dp {K : PySem.W.Frag} {H S : Hp} {v : V} {d : D} {p : PyData} (x : Shown g K H S v d) (le : Same S H) (h : pyD d = some p) : Dp K H v p := by
  cases x with
  | rep r => exact Dp.up le (Rep.dp r h)
  | @own a o c hp r =>
    cases r with
    | @lst vs ds r =>
      unfold Cn.d pyD at h
      cases q : pyDs ds with
      | none => rw [q] at h; cases h
      | some ps => rw [q] at h; cases h; exact .lst (SqL.of hp) (DpAll.up le (RepL.dp r q))
    | dK r => cases h
    | dT r => cases h
def eqB (a b : D) : Option Bool := (pyD a).bind fun p => (pyD b).bind fun q => if SeqAt.shaped p = true ∧ SeqAt.shaped q = true then some (PyData.eqv p q) else none
def eqD (a b : D) : Option RV := (eqB a b).map fun c => .dat (.bl c)
def neD (a b : D) : Option RV := (eqB a b).map fun c => .dat (.bl (!c))
theorem eqB_ok {a b : D} {c : Bool} (h : eqB a b = some c) : ∃ p q, pyD a = some p ∧ pyD b = some q ∧ SeqAt.shaped p = true ∧ SeqAt.shaped q = true ∧ PyData.eqv p q = c := by
  unfold eqB at h
  cases e1 : pyD a with
  | none => rw [e1] at h; cases h
  | some p =>
    cases e2 : pyD b with
    | none => rw [e1, e2] at h; cases h
    | some q =>
      rw [e1, e2] at h
      dsimp only [Option.bind_some] at h
      by_cases hc : SeqAt.shaped p = true ∧ SeqAt.shaped q = true
      · rw [if_pos hc] at h
        exact ⟨p, q, rfl, rfl, hc.1, hc.2, Option.some.inj h⟩
      · rw [if_neg hc] at h; cases h
theorem EndV.map_ {α : Type} {K : PySem.W.Frag} {σ : St} {τ : DS} {H S : Hp} {o : Option α} {f : α → RV} {Q : VK} (h : EndV g K σ τ H S (o.map f) Q) : ∃ a, o = some a ∧ EndV g K σ τ H S (some (f a)) Q := by
  cases o with
  | none => exact h.elim
  | some a => exact ⟨a, rfl, h⟩
theorem opD_eq (hu : X.A.units + 64 < cLine) : OpD X g (compareOp .Eq) eqD := by
  intro pins s σ H τ S x y v u dx dy Q I rx ry A sx sy h
  obtain ⟨c, e, h⟩ := EndV.map_ h
  obtain ⟨p, q, e1, e2, s1, s2, rfl⟩ := eqB_ok e
  exact op_eqD hu pins s σ H _ _ v u Q I rx ry ⟨p, q, sx.dp A.le e1, sy.dp A.le e2, s1, s2, h.here A (.bl _)⟩
theorem opD_ne (hu : X.A.units + 64 < cLine) : OpD X g (compareOp .NotEq) neD := by
  intro pins s σ H τ S x y v u dx dy Q I rx ry A sx sy h
  obtain ⟨c, e, h⟩ := EndV.map_ h
  obtain ⟨p, q, e1, e2, s1, s2, rfl⟩ := eqB_ok e
  exact op_neD hu pins s σ H _ _ v u Q I rx ry ⟨p, q, sx.dp A.le e1, sy.dp A.le e2, s1, s2, h.here A (.bl _)⟩
end

/-! ### subscripts -/
theorem RepL.atI {g : Gm} {K : PySem.W.Frag} {S : Hp} {vs : List V} {ds : List D} {i : Int} {d : D} (r : RepL g K S vs ds) (h : L2.atI ds i = some d) : ∃ v, L2.atI vs i = some v ∧ Rep g K S v d := by
  unfold L2.atI at h ⊢
  rw [r.length]
  cases q : ixN ds.length i with
  | none => rw [q] at h; cases h
  | some j => rw [q] at h; exact r.get h
def ixD : D → D → Option RV
  | .lst ds, .int i => (atI ds i).map .dat
  | .tup ds, .int i => (atI ds i).map .dat
  | .rol ds, .int i => (atI ds i).map .dat
  | _, _ => none
def cutD (ds : List D) (lo hi : Option Int) : List D := (ds.drop (HT.sIx ds.length 0 lo)).take (HT.sIx ds.length ds.length hi - HT.sIx ds.length 0 lo)
theorem RepL.cut {g : Gm} {K : PySem.W.Frag} {S : Hp} {vs : List V} {ds : List D} (r : RepL g K S vs ds) (lo hi : Option Int) : RepL g K S (cutV vs lo hi) (cutD ds lo hi) := by
  unfold cutV cutD
  rw [r.length]
  exact (r.drop _).take _
def slD (d : D) (lo hi : Option Int) : Option RV := match d with
  | .lst ds => some (.fr (.lst (cutD ds lo hi)))
  | .rol ds => some (.fr (.lst (cutD ds lo hi)))
  | .tup ds => some (.dat (.tup (cutD ds lo hi)))
  | _ => none
/-- a bound of a slice -/
def mNone : DS → Res (Option Int) := fun τ => .ok none τ
def asInt (r : RV) : Option Int := match r with
  | .dat (.int i) => some i
  | _ => none
def mSome (m : DS → Res RV) : DS → Res (Option Int) := fun τ => (m τ).bind fun r τ1 => ofO ((asInt r).map some) τ1
structure DO (X : Cx) (g : Gm) (W : WX) (e : Option Expr) (m : DS → Res (Option Int)) : Prop where
  po : PO X e fun σ H Q => ∃ τ S, Abs g X.K σ H τ S ∧ FinP g X.K W σ τ H S (m τ) fun _ o H' _ => Q o H'
def mSl (me : DS → Res RV) (ml mh : DS → Res (Option Int)) : DS → Res RV := fun τ => (me τ).bind fun r τ1 => (ml τ1).bind fun lo τ2 => (mh τ2).bind fun hi τ3 => op1 (fun d => slD d lo hi) r τ3
def mRevSl (me : DS → Res RV) : DS → Res RV := mUn (fun d => match d with
  | .lst ds => some (.fr (.lst ds.reverse))
  | .rol ds => some (.fr (.lst ds.reverse))
  | _ => none) me
section
variable {X : Cx} {g : Gm} {W : WX} {a b : Expr} {ma mb : DS → Res RV} {pos p2 : Pos}
theorem de_ix (ha : DE X g W a ma) (hb : DE X g W b mb) (hs : PlainIx b := by intro _ _; rfl) : DE X g W (.Subscript a b pos) (mBin ixD ma mb) := by
  refine ⟨PE.imp (pe_ix ix_seq ha.pe hb.pe hs) fun σ H Q h => (two h).mono fun x H1 h => h.mono fun y H2 ⟨τ, S, dx, dy, A, sx, sy, e⟩ => ?_⟩
  unfold ixD at e
  split at e
  · obtain ⟨p, vs, rfl, hp, r⟩ := sx.lst A.le
    obtain rfl := sy.int
    obtain ⟨d, q, e⟩ := EndV.map_ e
    obtain ⟨w, q2, r2⟩ := r.atI q
    exact .inl ⟨p, vs, _, w, rfl, rfl, SqL.of hp, q2, e.here A r2⟩
  · obtain ⟨p, vs, rfl, hp, r⟩ := sx.tup A.le
    obtain rfl := sy.int
    obtain ⟨d, q, e⟩ := EndV.map_ e
    obtain ⟨w, q2, r2⟩ := r.atI q
    exact .inr (.inl ⟨p, vs, _, w, rfl, rfl, hp, q2, e.here A r2⟩)
  · obtain ⟨p, vs, rfl, hp, r⟩ := sx.rol A.le
    obtain rfl := sy.int
    obtain ⟨d, q, e⟩ := EndV.map_ e
    obtain ⟨w, q2, r2⟩ := r.atI q
    exact .inl ⟨p, vs, _, w, rfl, rfl, hp, q2, e.here A r2⟩
  · exact e.elim
theorem PO.imp {X : Cx} {e : Option Expr} {t t' : TO} (h : PO X e t) (i : ∀ σ H Q, t' σ H Q → t σ H Q) : PO X e t' := ⟨fun pins s σ H Q I q => h.run pins s σ H Q I (i σ H Q q)⟩
theorem do_none : DO X g W none mNone := ⟨PO.imp po_none fun _ _ _ ⟨_, _, A, h⟩ => FinP.here A h⟩
theorem do_some (ha : DE X g W a ma) : DO X g W (some a) (mSome ma) := by
  refine ⟨PO.imp (po_some ha.pe) fun σ H Q ⟨τ, S, A, h⟩ => ⟨τ, S, A, (FinP.bind h).mono fun τ1 r H1 S1 A1 e1 h1 v rv => ?_⟩⟩
  cases rv with
  | dat r =>
    cases r with
    | int i => exact ⟨i, rfl, FinP.here A1 h1⟩
    | _ => exact (show False from h1).elim
  | fr _ _ _ _ _ => exact (show False from h1).elim
  | slot _ => exact (show False from h1).elim
theorem de_slice {lo hi : Option Expr} {ml mh : DS → Res (Option Int)} (ha : DE X g W a ma) (hl : DO X g W lo ml) (hh : DO X g W hi mh) : DE X g W (.Subscript a (.Slice lo hi none p2) pos) (mSl ma ml mh) := by
  refine ⟨PE.imp (pe_slice (SlR.or sl_list sl_tupA) ha.pe hl.po hh.po) fun σ H Q h => (LE.bind h).mono fun x H1 ⟨τ1, S1, r, A1, rv, al, h1⟩ => ?_⟩
  refine ⟨τ1, S1, A1, (FinP.bind h1).mono fun τ2 o H2 S2 A2 e2 h2 => ?_⟩
  refine ⟨τ2, S2, A2, (FinP.bind h2).mono fun τ3 o' H3 S3 A3 e3 h3 => ?_⟩
  have al3 : ∀ a, H3 a = none → H a = none := fun a z => al a (e2.al a (e3.al a z))
  obtain ⟨d, q, h4⟩ := ofO_bind_cases h3
  have sx := peek_ok A3 ((rv.ext e2 al).ext e3 (fun a z => al a (e2.al a z))) q
  have e := endV_fin al3 h4
  unfold slD at e
  split at e
  · obtain ⟨p, vs, rfl, hp, r⟩ := sx.lst A3.le
    exact .inl ⟨p, vs, rfl, SqL.of hp, e.lst A3 (r.cut _ _)⟩
  · obtain ⟨p, vs, rfl, hp, r⟩ := sx.rol A3.le
    exact .inl ⟨p, vs, rfl, hp, e.lst A3 (r.cut _ _)⟩
  · rename_i ds
    have sx' := sx
    obtain ⟨p, vs, rfl, hp, r⟩ := sx.tup A3.le
    refine .inr ⟨p, vs, rfl, hp, fun z => ?_, fun _ => e.tup A3 (r.cut _ _)⟩
    have ec : cutD ds o o' = ds := by
      unfold cutD
      rw [← r.length, z.1, z.2, r.length]
      simp
    rw [ec] at e
    generalize hd : D.tup ds = d at sx'
    cases sx' with
    | rep r => subst hd; exact e.here A3 r
    | own h r => cases r <;> cases hd
  · exact e.elim
theorem de_revSl {k : Nat} {p1 p2 p3 : Pos} (ha : DE X g W a ma) : DE X g W (.Subscript a (.Slice none none (some (.UnaryOp .USub (.Constant (.int 1) k p1) p2)) p3) pos) (mRevSl ma) := by
  refine ⟨PE.imp (pe_revL ha.pe) fun σ H Q h => (one h).mono fun x H1 ⟨τ, S, dx, A, sx, e⟩ => ?_⟩
  split at e
  · obtain ⟨p, vs, rfl, hp, r⟩ := sx.lst A.le
    exact ⟨p, vs, rfl, SqL.of hp, e.lst A r.reverse⟩
  · obtain ⟨p, vs, rfl, hp, r⟩ := sx.rol A.le
    exact ⟨p, vs, rfl, hp, e.lst A r.reverse⟩
  · exact e.elim
end
end DL

/-! DL8: built-ins, methods of lists, isinstance, chains, zip, enumerate. -/
namespace DL
open PySem PySem.Spec PyProof.Rows L2

/-! ### built-ins by values -/
def peeks : List RV → DS → Option (List D)
  | [], _ => some []
  | r :: rs, τ => (peek r τ).bind fun d => (peeks rs τ).map (d :: ·)
inductive ShownL (g : Gm) (K : PySem.W.Frag) (H S : Hp) : List V → List D → Prop
  | nil : ShownL g K H S [] []
  | cons {v : V} {vs : List V} {d : D} {ds : List D} : Shown g K H S v d → ShownL g K H S vs ds → ShownL g K H S (v :: vs) (d :: ds)
def CallD (X : Cx) (g : Gm) (fv : Value) (f : List D → Option RV) : Prop :=
  ∀ (pins : List (Addr × Obj)) (s : Shared) (σ : St) (H : Hp) (τ : DS) (S : Hp) (xs : List V) (us : List Value) (ds : List D) (Q : VK), Inv X pins σ H s → Vals xs us → Abs g X.K σ H τ S → ShownL g X.K H S xs ds →
    EndV g X.K σ τ H S (f ds) Q → wpAny (model X.prog X.w) X.A (call fv us) (EP X pins σ Q) X.xe s
def mCB (f : List D → Option RV) (ma : DS → Res (List RV)) : DS → Res RV := fun τ => (ma τ).bind fun rs τ1 => ofO ((peeks rs τ1).bind f) τ1
section
variable {X : Cx} {g : Gm} {W : WX} {x : Str} {p pos : Pos} {e : Expr} {es : List Expr} {ma : DS → Res (List RV)} {id T : String} {f : List D → Option RV}
theorem peeks_ok {K : PySem.W.Frag} {σ : St} {τ : DS} {H0 H S : Hp} {vs : List V} {rs : List RV} {ds : List D} (A : Abs g K σ H τ S) (x : RepVs g K σ τ H0 H S vs rs) (h : peeks rs τ = some ds) : ShownL g K H S vs ds := by
  induction x generalizing ds with
  | nil => cases h; exact .nil
  | @cons v vs r rs a b c ih =>
    unfold peeks at h
    cases q : peek r τ with
    | none => rw [q] at h; cases h
    | some d =>
      rw [q] at h
      dsimp only [Option.bind_some] at h
      cases q2 : peeks rs τ with
      | none => rw [q2] at h; cases h
      | some ds' => rw [q2] at h; cases h; exact .cons (peek_ok A a q) (ih q2)
theorem LE.looked {K : PySem.W.Frag} {σ : St} {H : Hp} {Q : VK} (h : LE g K W (mCB f ma) σ H Q) : LA g K W ma σ H fun vs H1 => ∃ τ S ds, Abs g K σ H1 τ S ∧ ShownL g K H1 S vs ds ∧ EndV g K σ τ H1 S (f ds) Q := by
  obtain ⟨τ, S, A, h⟩ := h
  refine ⟨τ, S, A, (FinP.bind h).mono fun τ1 rs H1 S1 A1 e1 h1 vs rvs => ?_⟩
  obtain ⟨ds, q, h2⟩ := ofO_bind_cases h1
  exact ⟨τ1, S1, ds, A1, peeks_ok A1 rvs q, endV_fin e1.al h2⟩
theorem de_callBi (hc : CallD X g (.builtin id) f) (hg : Gl X x) (hm : X.mg x = none) (hv : bootBuiltins x = some (.builtin id)) (ha : DA X g W (e :: es) ma) (hn : x ≠ "__name__" := by decide) (hdb : (x == ("__debug__" : Str)) = false := by decide)
    (he : starEach (e :: es) X.env = (false, eval e X.env) :: starEach es X.env := by rfl) (hpl : (backTo pos (starEach es X.env)).any (·.1) = false := by rfl) : DE X g W (.Call (.Name x p) (e :: es) [] pos) (mCB f ma) := by
  refine ⟨⟨fun pins s σ H Q I h => ?_⟩⟩
  refine wpAny_Call_Name_kw (ld_blt I hg hm hv ?_ hn hdb)
  exact PyProof.Rows.callWith_builtin1 (thn (ha.pa.run pos pins s σ H _ I (LE.looked h)) fun us s1 ⟨vs, H1, I1, r1, τ, S, ds, A, sh, q1⟩ => hc pins s1 σ H1 τ S vs us ds Q I1 r1 A sh q1) he hpl
theorem de_callTy (hc : CallD X g (.type T) f) (hg : Gl X x) (hm : X.mg x = none) (hv : bootBuiltins x = some (.type T)) (ha : DA X g W (e :: es) ma) (hn : x ≠ "__name__" := by decide) (hdb : (x == ("__debug__" : Str)) = false := by decide)
    (he : starEach (e :: es) X.env = (false, eval e X.env) :: starEach es X.env := by rfl) (hpl : (backTo pos (starEach es X.env)).any (·.1) = false := by rfl) : DE X g W (.Call (.Name x p) (e :: es) [] pos) (mCB f ma) := by
  refine ⟨⟨fun pins s σ H Q I h => ?_⟩⟩
  refine wpAny_Call_Name_kw (ld_blt I hg hm hv ?_ hn hdb)
  exact PyProof.Rows.callWith_type1 (thn (ha.pa.run pos pins s σ H _ I (LE.looked h)) fun us s1 ⟨vs, H1, I1, r1, τ, S, ds, A, sh, q1⟩ => hc pins s1 σ H1 τ S vs us ds Q I1 r1 A sh q1) he hpl

def lenD : List D → Option RV
  | [.lst ds] => some (.dat (.int ds.length))
  | [.rol ds] => some (.dat (.int ds.length))
  | [.tup ds] => some (.dat (.int ds.length))
  | [.str s] => if s.length ≤ bigN then some (.dat (.int s.length)) else none
  | _ => none
theorem callD_len : CallD X g (.builtin "len") lenD := by
  intro pins s σ H τ S xs us ds Q I r A sh h
  unfold lenD at h
  split at h
  · cases sh with
    | cons sx sn =>
      cases sn
      obtain ⟨a, vs, rfl, ha, rl⟩ := sx.lst A.le
      exact call_len pins s σ H _ us Q I r ⟨_, vs.length, rfl, .inl ⟨vs, SqL.of ha, rfl⟩, by rw [rl.length]; exact h.here A (.int _)⟩
  · cases sh with
    | cons sx sn =>
      cases sn
      obtain ⟨a, vs, rfl, ha, rl⟩ := sx.rol A.le
      exact call_len pins s σ H _ us Q I r ⟨_, vs.length, rfl, .inl ⟨vs, ha, rfl⟩, by rw [rl.length]; exact h.here A (.int _)⟩
  · cases sh with
    | cons sx sn =>
      cases sn
      obtain ⟨a, vs, rfl, ha, rl⟩ := sx.tup A.le
      exact call_len pins s σ H _ us Q I r ⟨_, vs.length, rfl, .inr ⟨vs, ha, rfl⟩, by rw [rl.length]; exact h.here A (.int _)⟩
  · cases sh with
    | cons sx sn =>
      cases sn
      obtain rfl := sx.str
      obtain ⟨hl, h⟩ := h.if_
      exact call_len pins s σ H _ us Q I r ⟨_, _, rfl, ⟨Nat.le_trans hl bigN_le, rfl⟩, h.here A (.int _)⟩
  · exact h.elim
def absD : List D → Option RV
  | [.int i] => some (.dat (.int (if i < 0 then -i else i)))
  | _ => none
theorem callD_abs : CallD X g (.builtin "abs") absD := by
  intro pins s σ H τ S xs us ds Q I r A sh h
  unfold absD at h
  split at h
  · cases sh with
    | cons sx sn =>
      cases sn
      obtain rfl := sx.int
      exact call_abs pins s σ H _ us Q I r ⟨_, rfl, h.here A (.int _)⟩
  · exact h.elim
def int1D : List D → Option RV
  | [.int i] => some (.dat (.int i))
  | [.bl k] => some (.dat (.int (if k then 1 else 0)))
  | _ => none
theorem callD_int : CallD X g (.type "int") int1D := by
  intro pins s σ H τ S xs us ds Q I r A sh h
  unfold int1D at h
  split at h
  · cases sh with
    | cons sx sn =>
      cases sn
      obtain rfl := sx.int
      exact call_int1 pins s σ H _ us Q I r (.inl ⟨_, rfl, h.here A (.int _)⟩)
  · cases sh with
    | cons sx sn =>
      cases sn
      obtain rfl := sx.bl
      exact call_int1 pins s σ H _ us Q I r (.inr ⟨_, rfl, h.here A (.int _)⟩)
  · exact h.elim
/-- max and min of ints -/
def maxI : List Int → Option Int
  | [] => none
  | n :: ns => some (ns.foldl (fun a b => if b > a then b else a) n)
def minI : List Int → Option Int
  | [] => none
  | n :: ns => some (ns.foldl (fun a b => if b < a then b else a) n)
theorem maxF (ns : List Int) : ∀ n : Int, (ns.foldl (fun a b => if b > a then b else a) n = n ∨ ns.foldl (fun a b => if b > a then b else a) n ∈ ns) ∧ n ≤ ns.foldl (fun a b => if b > a then b else a) n ∧ ∀ y ∈ ns, y ≤ ns.foldl (fun a b => if b > a then b else a) n := by
  induction ns with
  | nil => intro n; simp
  | cons m ns ih =>
    intro n
    rw [List.foldl_cons]
    have ht : (if m > n then m else n) = n ∨ (if m > n then m else n) = m := by split <;> simp
    have hn : n ≤ (if m > n then m else n) ∧ m ≤ (if m > n then m else n) := by split <;> omega
    revert ht hn
    generalize (if m > n then m else n) = t
    intro ht hn
    obtain ⟨h1, h2, h3⟩ := ih t
    refine ⟨?_, Int.le_trans hn.1 h2, fun y hy => ?_⟩
    · rcases h1 with h1 | h1
      · rw [h1]
        rcases ht with e | e
        · exact .inl e
        · rw [e]; exact .inr List.mem_cons_self
      · exact .inr (List.mem_cons_of_mem _ h1)
    · rcases List.mem_cons.mp hy with e | hy
      · rw [e]; exact Int.le_trans hn.2 h2
      · exact h3 y hy
theorem minF (ns : List Int) : ∀ n : Int, (ns.foldl (fun a b => if b < a then b else a) n = n ∨ ns.foldl (fun a b => if b < a then b else a) n ∈ ns) ∧ ns.foldl (fun a b => if b < a then b else a) n ≤ n ∧ ∀ y ∈ ns, ns.foldl (fun a b => if b < a then b else a) n ≤ y := by
  induction ns with
  | nil => intro n; simp
  | cons m ns ih =>
    intro n
    rw [List.foldl_cons]
    have ht : (if m < n then m else n) = n ∨ (if m < n then m else n) = m := by split <;> simp
    have hn : (if m < n then m else n) ≤ n ∧ (if m < n then m else n) ≤ m := by split <;> omega
    revert ht hn
    generalize (if m < n then m else n) = t
    intro ht hn
    obtain ⟨h1, h2, h3⟩ := ih t
    refine ⟨?_, Int.le_trans h2 hn.1, fun y hy => ?_⟩
    · rcases h1 with h1 | h1
      · rw [h1]
        rcases ht with e | e
        · exact .inl e
        · rw [e]; exact .inr List.mem_cons_self
      · exact .inr (List.mem_cons_of_mem _ h1)
    · rcases List.mem_cons.mp hy with e | hy
      · rw [e]; exact Int.le_trans h2 hn.2
      · exact h3 y hy
def maxD : List D → Option RV
  | [.int i, .int j] => some (.dat (.int (if j > i then j else i)))
  | [.lst ds] => (allInts ds).bind fun ns => (maxI ns).map fun m => .dat (.int m)
  | _ => none
def minD : List D → Option RV
  | [.int i, .int j] => some (.dat (.int (if j < i then j else i)))
  | [.lst ds] => (allInts ds).bind fun ns => (minI ns).map fun m => .dat (.int m)
  | _ => none
theorem callD_max (hc : X.calm = true) : CallD X g (.builtin "max") maxD := by
  intro pins s σ H τ S xs us ds Q I r A sh h
  unfold maxD at h
  split at h
  · cases sh with
    | cons sx sn =>
      cases sn with
      | cons sy sn =>
        cases sn
        obtain rfl := sx.int
        obtain rfl := sy.int
        exact call_max2 hc pins s σ H _ us Q I r ⟨_, _, rfl, h.here A (.int _)⟩
  · cases sh with
    | cons sx sn =>
      cases sn
      obtain ⟨a, vs, rfl, ha, rl⟩ := sx.lst A.le
      obtain ⟨ns, e1, h⟩ := h.bind_
      obtain ⟨m, e2, h⟩ := h.map_
      rw [allInts_eq e1] at rl
      have z := rl.ints
      subst z
      cases ns with
      | nil => cases e2
      | cons n ns =>
        obtain ⟨h1, h2, h3⟩ := maxF ns n
        have e3 := Option.some.inj e2
        rw [e3] at h1 h2 h3
        refine cr_max hc pins s σ H _ us Q I r ⟨a, _, rfl, SqL.of ha, by simp, fun y hy hmax => ?_⟩
        have e : y = m := by
          have z1 : y ≤ m := by
            rcases List.mem_cons.mp hy with e | hy
            · rw [e]; exact h2
            · exact h3 y hy
          have z2 : m ≤ y := by
            rcases h1 with e | hm
            · rw [e]; exact hmax n List.mem_cons_self
            · exact hmax m (List.mem_cons_of_mem _ hm)
          omega
        rw [e]
        first
          | exact h.here A (.int _)
          | (rw [← e3]; exact h.here A (.int _))
  · exact h.elim
theorem callD_min (hc : X.calm = true) : CallD X g (.builtin "min") minD := by
  intro pins s σ H τ S xs us ds Q I r A sh h
  unfold minD at h
  split at h
  · cases sh with
    | cons sx sn =>
      cases sn with
      | cons sy sn =>
        cases sn
        obtain rfl := sx.int
        obtain rfl := sy.int
        exact call_min2 hc pins s σ H _ us Q I r ⟨_, _, rfl, h.here A (.int _)⟩
  · cases sh with
    | cons sx sn =>
      cases sn
      obtain ⟨a, vs, rfl, ha, rl⟩ := sx.lst A.le
      obtain ⟨ns, e1, h⟩ := h.bind_
      obtain ⟨m, e2, h⟩ := h.map_
      rw [allInts_eq e1] at rl
      have z := rl.ints
      subst z
      cases ns with
      | nil => cases e2
      | cons n ns =>
        obtain ⟨h1, h2, h3⟩ := minF ns n
        have e3 := Option.some.inj e2
        rw [e3] at h1 h2 h3
        refine cr_min hc pins s σ H _ us Q I r ⟨a, _, rfl, SqL.of ha, by simp, fun y hy hmax => ?_⟩
        have e : y = m := by
          have z1 : m ≤ y := by
            rcases List.mem_cons.mp hy with e | hy
            · rw [e]; exact h2
            · exact h3 y hy
          have z2 : y ≤ m := by
            rcases h1 with e | hm
            · rw [e]; exact hmax n List.mem_cons_self
            · exact hmax m (List.mem_cons_of_mem _ hm)
          omega
        rw [e]
        first
          | exact h.here A (.int _)
          | (rw [← e3]; exact h.here A (.int _))
  · exact h.elim
def sumD : List D → Option RV
  | [.lst ds] => (allInts ds).map fun ns => .dat (.int ns.sum)
  | _ => none
theorem callD_sum (hc : X.calm = true) : CallD X g (.builtin "sum") sumD := by
  intro pins s σ H τ S xs us ds Q I r A sh h
  unfold sumD at h
  split at h
  · cases sh with
    | cons sx sn =>
      cases sn
      obtain ⟨a, vs, rfl, ha, rl⟩ := sx.lst A.le
      obtain ⟨ns, e1, h⟩ := h.map_
      rw [allInts_eq e1] at rl
      have z := rl.ints
      subst z
      exact cr_sum hc pins s σ H _ us Q I r ⟨a, _, rfl, SqL.of ha, h.here A (.int _)⟩
  · exact h.elim
/-- all of them truth values -/
def allBls : List D → Option (List Bool)
  | [] => some []
  | .bl b :: ds => (allBls ds).map (b :: ·)
  | _ :: _ => none
theorem allBls_eq : ∀ {ds : List D} {ns : List Bool}, allBls ds = some ns → ds = ns.map D.bl
  | [], ns, h => by cases h; rfl
  | .bl i :: ds, ns, h => by
    unfold allBls at h
    cases q : allBls ds with
    | none => rw [q] at h; cases h
    | some ms => rw [q] at h; cases h; rw [allBls_eq q]; rfl
  | .non :: _, _, h => by cases h
  | .int _ :: _, _, h => by cases h
  | .str _ :: _, _, h => by cases h
  | .sym _ :: _, _, h => by cases h
  | .ref _ :: _, _, h => by cases h
  | .tup _ :: _, _, h => by cases h
  | .lst _ :: _, _, h => by cases h
  | .rol _ :: _, _, h => by cases h
  | .dct _ :: _, _, h => by cases h
theorem allBls_map (ns : List Bool) : allBls (ns.map D.bl) = some ns := by
  induction ns with
  | nil => rfl
  | cons n ns ih => show (allBls (ns.map D.bl)).map (n :: ·) = _; rw [ih]; rfl
theorem RepL.bls {K : PySem.W.Frag} {S : Hp} : ∀ {vs : List V} {ns : List Bool}, RepL g K S vs (ns.map D.bl) → vs = ns.map V.bl
  | _, [], .nil => rfl
  | _, n :: ns, .cons (.bl _) t => by rw [RepL.bls t]; rfl
def allD : List D → Option RV
  | [.lst ds] => (allBls ds).map fun ns => .dat (.bl (ns.all fun b => b))
  | _ => none
def anyD : List D → Option RV
  | [.lst ds] => (allBls ds).map fun ns => .dat (.bl (ns.any fun b => b))
  | _ => none
theorem callD_all (hc : X.calm = true) : CallD X g (.builtin "all") allD := by
  intro pins s σ H τ S xs us ds Q I r A sh h
  unfold allD at h
  split at h
  · cases sh with
    | cons sx sn =>
      cases sn
      obtain ⟨a, vs, rfl, ha, rl⟩ := sx.lst A.le
      obtain ⟨ns, e1, h⟩ := h.map_
      rw [allBls_eq e1] at rl
      have z := rl.bls
      subst z
      exact cr_all hc pins s σ H _ us Q I r ⟨a, _, rfl, SqL.of ha, h.here A (.bl _)⟩
  · exact h.elim
theorem callD_any (hc : X.calm = true) : CallD X g (.builtin "any") anyD := by
  intro pins s σ H τ S xs us ds Q I r A sh h
  unfold anyD at h
  split at h
  · cases sh with
    | cons sx sn =>
      cases sn
      obtain ⟨a, vs, rfl, ha, rl⟩ := sx.lst A.le
      obtain ⟨ns, e1, h⟩ := h.map_
      rw [allBls_eq e1] at rl
      have z := rl.bls
      subst z
      exact cr_any hc pins s σ H _ us Q I r ⟨a, _, rfl, SqL.of ha, h.here A (.bl _)⟩
  · exact h.elim
def listD : List D → Option RV
  | [.lst ds] => some (.fr (.lst ds))
  | [.rol ds] => some (.fr (.lst ds))
  | [.tup ds] => some (.fr (.lst ds))
  | _ => none
theorem callD_list : CallD X g (.type "list") listD := by
  intro pins s σ H τ S xs us ds Q I r A sh h
  unfold listD at h
  split at h
  · cases sh with
    | cons sx sn =>
      cases sn
      obtain ⟨a, vs, rfl, ha, rl⟩ := sx.lst A.le
      exact call_list_of pins s σ H _ us Q I r ⟨a, vs, rfl, .inl (SqL.of ha), h.lst A rl⟩
  · cases sh with
    | cons sx sn =>
      cases sn
      obtain ⟨a, vs, rfl, ha, rl⟩ := sx.rol A.le
      exact call_list_of pins s σ H _ us Q I r ⟨a, vs, rfl, .inl ha, h.lst A rl⟩
  · cases sh with
    | cons sx sn =>
      cases sn
      obtain ⟨a, vs, rfl, ha, rl⟩ := sx.tup A.le
      exact call_list_of pins s σ H _ us Q I r ⟨a, vs, rfl, .inr ha, h.lst A rl⟩
  · exact h.elim
def tupleD : List D → Option RV
  | [.lst ds] => some (.dat (.tup ds))
  | [.tup ds] => some (.dat (.tup ds))
  | _ => none
theorem callD_tuple : CallD X g (.type "tuple") tupleD := by
  intro pins s σ H τ S xs us ds Q I r A sh h
  unfold tupleD at h
  split at h
  · cases sh with
    | cons sx sn =>
      cases sn
      obtain ⟨a, vs, rfl, ha, rl⟩ := sx.lst A.le
      exact call_tuple_of pins s σ H _ us Q I r ⟨a, vs, rfl, .inl ⟨SqL.of ha, h.tup A rl⟩⟩
  · rename_i ds
    cases sh with
    | cons sx sn =>
      cases sn
      have sx' := sx
      obtain ⟨a, vs, rfl, ha, rl⟩ := sx.tup A.le
      refine call_tuple_of pins s σ H _ us Q I r ⟨a, vs, rfl, .inr ⟨ha, ?_⟩⟩
      generalize hd : D.tup ds = d at sx'
      cases sx' with
      | rep r => subst hd; exact h.here A r
      | own h r => cases r <;> cases hd
  · exact h.elim

/-! ### isinstance with a built-in class -/
def isT (T : String) (d : D) : Option Bool := match d with
  | .non => kitB "NoneType" T
  | .bl _ => kitB "bool" T
  | .int _ => kitB "int" T
  | .str _ => kitB "str" T
  | .tup _ => kitB "tuple" T
  | .lst _ => kitB "list" T
  | .dct _ => kitB "dict" T
  | _ => none
def mIsi (T : String) (me : DS → Res RV) : DS → Res RV := mUn (fun d => (isT T d).map fun b => .dat (.bl b)) me
theorem Shown.dct {K : PySem.W.Frag} {H S : Hp} {v : V} {kvs : List (D × D)} (x : Shown g K H S v (.dct kvs)) (le : Same S H) : ∃ a, v = .ref a ∧ ((∃ k, H a = some (.dK k)) ∨ ∃ k, H a = some (.dT k)) := by
  generalize hd : D.dct kvs = d at x
  cases x with
  | rep r =>
    cases r with
    | dK h r => exact ⟨_, rfl, .inl ⟨_, le _ _ h⟩⟩
    | dT h r => exact ⟨_, rfl, .inr ⟨_, le _ _ h⟩⟩
    | _ => cases hd
  | own h r =>
    cases r with
    | lst r => cases hd
    | dK r => exact ⟨_, rfl, .inl ⟨_, h⟩⟩
    | dT r => exact ⟨_, rfl, .inr ⟨_, h⟩⟩
theorem tyx_lst {K : PySem.W.Frag} {H : Hp} {a : Addr} {vs : List V} (h : SqT K H a vs) : TyX K H (.ref a) (.type "tuple") := by
  rcases h with (h | ⟨o, h⟩) | ⟨o, its, n, h, hc, _⟩
  · exact .base (.tup h)
  · exact .fTuple h
  · exact .kTuple h hc
theorem de_isi {x2 : Str} {p2 : Pos} {me : DS → Res RV} (T : String) (hg : Gl X "isinstance") (hm : X.mg "isinstance" = none) (hgT : Gl X x2) (hmT : X.mg x2 = none) (hvT : bootBuiltins x2 = some (.type T)) (he : DE X g W e me) (hnT : x2 ≠ "__name__" := by decide) (hdT : (x2 == ("__debug__" : Str)) = false := by decide)
    (hs : starEach [e, .Name x2 p2] X.env = (false, eval e X.env) :: starEach [.Name x2 p2] X.env := by rfl) (hs2 : starEach [.Name x2 p2] X.env = (false, eval (.Name x2 p2) X.env) :: starEach [] X.env := by rfl) (hpl : (backTo pos (starEach [.Name x2 p2] X.env)).any (·.1) = false := by rfl) :
    DE X g W (.Call (.Name "isinstance" p) [e, .Name x2 p2] [] pos) (mIsi T me) := by
  refine ⟨PE.imp (pe_callB call_isi hg hm boot_isinstance (pa_cons he.pe (pa_cons (pe_bltn (v := .ty T) hgT hmT hvT rfl hnT hdT) pa_nil hs2) hs) (he := hs) (hpl := hpl)) fun σ H Q h => (one h).mono fun x H1 ⟨τ, S, d, A, sx, en⟩ => ?_⟩
  obtain ⟨b, q, en⟩ := en.map_
  have fin : ∀ {t : Value}, TyX X.K H1 x t → PySem.W.kitOne X.K t (.type T) = some b → rIsi X.K [x, .ty T] H1 Q := fun {t} ty k => ⟨x, .ty T, t, .type T, b, rfl, .ty T, ty, k, en.here A (.bl b)⟩
  unfold isT at q
  split at q
  · obtain rfl := sx.non; exact fin (.base .non) (kit_ty q)
  · obtain rfl := sx.bl; exact fin (.base (.bl _)) (kit_ty q)
  · obtain rfl := sx.int; exact fin (.base (.int _)) (kit_ty q)
  · obtain rfl := sx.str; exact fin (.base (.str _)) (kit_ty q)
  · obtain ⟨a, vs, rfl, ha, _⟩ := sx.tup A.le
    exact fin (tyx_lst ha) (kit_ty q)
  · obtain ⟨a, vs, rfl, ha, _⟩ := sx.lst A.le
    exact fin (.base (.lst ha)) (kit_ty q)
  · obtain ⟨a, rfl, ⟨k, ha⟩ | ⟨k, ha⟩⟩ := sx.dct A.le
    · exact fin (.base (.dK ha)) (kit_ty q)
    · exact fin (.base (.dT ha)) (kit_ty q)
  · cases q
end

/-! ### a < b < c -/
def mChain (p q : Int → Int → Bool) (ma mb mc : DS → Res RV) : DS → Res RV := fun τ => (ma τ).bind fun x τ1 => (mb τ1).bind fun y τ2 => match asInt x, asInt y with
  | some i, some j => if p i j = true then (mc τ2).bind fun z τ3 => (match asInt z with
    | some l => .ok (.dat (.bl (q j l))) τ3
    | none => .stuck) else .ok (.dat (.bl false)) τ2
  | _, _ => .stuck
section
variable {X : Cx} {g : Gm} {W : WX} {a b c : Expr} {ma mb mc : DS → Res RV} {pos : Pos}
theorem asInt_some {r : RV} {i : Int} (h : asInt r = some i) : r = .dat (.int i) := by
  unfold asInt at h
  split at h
  · cases h; rfl
  · cases h
theorem chain_ok {K : PySem.W.Frag} {σ : St} {H : Hp} {p q : Int → Int → Bool} {Q : VK} (h : LE g K W (mChain p q ma mb mc) σ H Q) :
    tChain (rI0 fun i j => .bl (p i j)) (rI0 fun i j => .bl (q i j)) (LE g K W ma) (LE g K W mb) (LE g K W mc) σ H Q := by
  refine (LE.bind h).mono fun x H1 ⟨τ1, S1, rx, A1, rvx, al1, h1⟩ => ?_
  refine ⟨τ1, S1, A1, (FinP.bind h1).mono fun τ2 ry H2 S2 A2 e2 h2 y rvy => ?_⟩
  cases e3 : asInt rx with
  | none => rw [e3] at h2; exact h2.elim
  | some i =>
    cases e4 : asInt ry with
    | none => rw [e3, e4] at h2; exact h2.elim
    | some j =>
      rw [e3, e4] at h2
      dsimp only at h2
      have z1 := asInt_some e3
      have z2 := asInt_some e4
      subst z1 z2
      cases rvx with
      | dat r1 =>
        cases r1
        cases rvy with
        | dat r2 =>
          cases r2
          refine ⟨i, j, rfl, rfl, p i j, rfl, ?_⟩
          have al2 : ∀ a, H2 a = none → H a = none := fun a z => al1 a (e2.al a z)
          by_cases hp : p i j = true
          · rw [if_pos hp] at h2
            rw [if_pos hp]
            refine ⟨τ2, S2, A2, (FinP.bind h2).mono fun τ3 rz H3 S3 A3 e3' h3 z rvz => ?_⟩
            cases e5 : asInt rz with
            | none => rw [e5] at h3; exact h3.elim
            | some l =>
              rw [e5] at h3
              have z3 := asInt_some e5
              subst z3
              cases rvz with
              | dat r3 =>
                cases r3
                exact ⟨j, l, rfl, rfl, FinP.val (H0 := H) A3 (fun _ => .bl _) h3⟩
          · rw [if_neg hp] at h2
            rw [if_neg hp]
            exact FinP.val A2 (fun _ => .bl false) h2
theorem de_chain {op op' : CmpOp} {p q : Int → Int → Bool} (ho : OpR X (compareOp op) (rI0 fun i j => .bl (p i j))) (ho' : OpR X (compareOp op') (rI0 fun i j => .bl (q i j))) (ha : DE X g W a ma) (hb : DE X g W b mb) (hc : DE X g W c mc) (hm : lastMarks [op, op'] [b, c] = false := by rfl) :
    DE X g W (.Compare a [op, op'] [b, c] pos) (mChain p q ma mb mc) := ⟨PE.imp (pe_chain ho ho' ha.pe hb.pe hc.pe (hm := hm)) fun _ _ _ h => chain_ok h⟩
theorem dt_chain {op op' : CmpOp} {p q : Int → Int → Bool} (ho : OpR X (compareOp op) (rI0 fun i j => .bl (p i j))) (ho' : OpR X (compareOp op') (rI0 fun i j => .bl (q i j))) (ha : DE X g W a ma) (hb : DE X g W b mb) (hc : DE X g W c mc) (hm : lastMarks [op, op'] [b, c] = false := by rfl) :
    DT X g W (.Compare a [op, op'] [b, c] pos) (mTest (mChain p q ma mb mc)) :=
  ⟨PT.imp (pt_chain ho ho' ha.pe hb.pe hc.pe (hm := hm)) fun σ H Q h => chain_ok (LE.mono (test_of h) fun x H1 z => z)⟩
end
end DL

set_option maxHeartbeats 1000000
/-! DL9: methods of a slot's list, list(reversed(..)), stores to places, op=, zip, enumerate. -/
namespace DL
open PySem PySem.Spec PyProof.Rows L2

/-! ### methods of the list that a slot owns -/
def methAt (i : Nat) (f : List D → List D → Option (D × List D)) (ds : List D) (τ : DS) : Res RV := match τ[i]? with
  | some (.own (.lst xs)) => (match f xs ds with
    | some (r, ys) => .ok (.dat r) (τ.set i (.own (.lst ys)))
    | none => .stuck)
  | _ => .stuck
def mMeth (i : Nat) (f : List D → List D → Option (D × List D)) (ma : DS → Res (List RV)) : DS → Res RV := fun τ => match τ[i]? with
  | some (.own (.lst _)) => mFast ma (methAt i f) τ
  | _ => .stuck
section
variable {X : Cx} {g : Gm} {W : WX} {k : Nat → Bool} {ma : DS → Res (List RV)} {x : Str} {e : Expr} {es : List Expr} {pos apos p : Pos}
theorem Abs.pokeSlot {K : PySem.W.Frag} {σ : St} {τ : DS} {H S : Hp} {j : Nat} {q : Addr} {c c' : Cn} {o' : HO} (A : Abs g K σ H τ S) (hj : τ[j]? = some (SV.own c)) (hs : σ[j]? = some (some (.ref q))) (hq : H q ≠ none) (n : S q = none) (h3 : RepC g K S o' c') :
    Abs g K σ (upd H q o') (τ.set j (.own c')) S ∧ Ext σ τ H S σ (τ.set j (.own c')) (upd H q o') S := by
  refine A.backB hj hs (fun b y e => ?_) ⟨Same.refl _, fun a y e1 e2 ne => ⟨by rw [upd_ne ne]; exact e1, e2⟩, fun a e => ?_⟩ upd_same n h3
  · have ne : b ≠ q := fun z => by subst z; rw [n] at e; cases e
    rw [upd_ne ne]; exact A.le _ _ e
  · by_cases hb : a = q
    · subst hb; rw [upd_same] at e; cases e
    · rw [upd_ne hb] at e; exact e
theorem meth_ok {K : PySem.W.Frag} {i : Nat} {f : List D → List D → Option (D × List D)} {σ : St} {H : Hp} {Q : VK} (h : LE g K W (mMeth i f ma) σ H Q) :
    ∃ a, σ[i]? = some (some (.ref a)) ∧ (∃ lv, H a = some (.lst lv)) ∧ LA g K W ma σ H fun vs H1 => ∃ S lv xs ds r ys, H1 a = some (.lst lv) ∧ RepL g K S lv xs ∧ RepL g K S vs ds ∧ f xs ds = some (r, ys) ∧ ∀ w lv', RepL g K S lv' ys → Rep g K S w r → Q w (upd H1 a (.lst lv')) := by
  obtain ⟨τ, S, A, h⟩ := h
  unfold mMeth at h
  cases q0 : τ[i]? with
  | none => rw [q0] at h; exact h.elim
  | some sv =>
    rw [q0] at h
    cases sv with
    | emp => exact h.elim
    | dat d => exact h.elim
    | own c0 =>
      cases c0 with
      | dct _ => exact h.elim
      | lst xs0 =>
        obtain ⟨a, o, hv, h0, _, r0⟩ := A.own i _ q0
        refine ⟨a, hv, ?_, τ, S, A, (LA.fast h).mono fun τ1 rs H1 S1 A1 e1 q vs rvs => ?_⟩
        · cases r0 with
          | lst r => exact ⟨_, h0⟩
        · obtain ⟨τ2, S2, ds, A2, e2, rl, h2⟩ := q vs rvs
          unfold methAt at h2
          cases q : τ2[i]? with
          | none => rw [q] at h2; exact h2.elim
          | some sv =>
            rw [q] at h2
            cases sv with
            | emp => exact h2.elim
            | dat d => exact h2.elim
            | own c =>
              cases c with
              | dct _ => exact h2.elim
              | lst xs =>
                dsimp only at h2
                obtain ⟨b, o', z1, z2, z3, z4⟩ := A2.own i _ q
                rw [hv] at z1; cases z1
                cases z4 with
                | lst z4 =>
                  cases q3 : f xs ds with
                  | none => rw [q3] at h2; exact h2.elim
                  | some p =>
                    obtain ⟨r, ys⟩ := p
                    rw [q3] at h2
                    refine ⟨S2, _, xs, ds, r, ys, z2, z4, rl, q3, fun w lv' rl' rw' => ?_⟩
                    obtain ⟨A3, e3⟩ := A2.pokeSlot q hv (by rw [z2]; simp) z3 (.lst rl')
                    exact h2 _ _ A3 e3 w (.dat rw')
theorem meth_okA {K : PySem.W.Frag} {i : Nat} {f : List D → List D → Option (D × List D)} {σ : St} {H : Hp} {Q : VK} (h : LE g K W (mMeth i f ma) σ H Q) :
    ∃ a, σ[i]? = some (some (.ref a)) ∧ (∃ lv, H a = some (.lst lv)) ∧ ∃ τ S, Abs g K σ H τ S ∧ FinP g K W σ τ H S (ma τ) fun τ1 rs H1 S1 => ∀ vs, RepVs g K σ τ1 H H1 S1 vs rs → ∃ S lv xs ds r ys, H1 a = some (.lst lv) ∧ Same S H1 ∧ RepL g K S lv xs ∧ RepL g K S vs ds ∧ f xs ds = some (r, ys) ∧ ∀ w lv', RepL g K S lv' ys → Rep g K S w r → Q w (upd H1 a (.lst lv')) := by
  obtain ⟨τ, S, A, h⟩ := h
  unfold mMeth at h
  cases q0 : τ[i]? with
  | none => rw [q0] at h; exact h.elim
  | some sv =>
    rw [q0] at h
    cases sv with
    | emp => exact h.elim
    | dat d => exact h.elim
    | own c0 =>
      cases c0 with
      | dct _ => exact h.elim
      | lst xs0 =>
        obtain ⟨a, o, hv, h0, _, r0⟩ := A.own i _ q0
        refine ⟨a, hv, ?_, τ, S, A, (LA.fast h).mono fun τ1 rs H1 S1 A1 e1 q vs rvs => ?_⟩
        · cases r0 with
          | lst r => exact ⟨_, h0⟩
        · obtain ⟨τ2, S2, ds, A2, e2, rl, h2⟩ := q vs rvs
          unfold methAt at h2
          cases q : τ2[i]? with
          | none => rw [q] at h2; exact h2.elim
          | some sv =>
            rw [q] at h2
            cases sv with
            | emp => exact h2.elim
            | dat d => exact h2.elim
            | own c =>
              cases c with
              | dct _ => exact h2.elim
              | lst xs =>
                dsimp only at h2
                obtain ⟨b, o', z1, z2, z3, z4⟩ := A2.own i _ q
                rw [hv] at z1; cases z1
                cases z4 with
                | lst z4 =>
                  cases q3 : f xs ds with
                  | none => rw [q3] at h2; exact h2.elim
                  | some p =>
                    obtain ⟨r, ys⟩ := p
                    rw [q3] at h2
                    refine ⟨S2, _, xs, ds, r, ys, z2, A2.le, z4, rl, q3, fun w lv' rl' rw' => ?_⟩
                    obtain ⟨A3, e3⟩ := A2.pokeSlot q hv (by rw [z2]; simp) z3 (.lst rl')
                    exact h2 _ _ A3 e3 w (.dat rw')
theorem tyL {K : PySem.W.Frag} {H : Hp} {a : Addr} {lv : List V} (h : H a = some (.lst lv)) : tyV K "list" (.ref a) H := .inl ⟨rfl, lv, SqL.of h⟩
theorem RepL.eraseIdx {K : PySem.W.Frag} {S : Hp} : ∀ {vs : List V} {ds : List D} (n : Nat), RepL g K S vs ds → RepL g K S (vs.eraseIdx n) (ds.eraseIdx n)
  | _, _, _, .nil => .nil
  | _, _, 0, .cons r t => t
  | _, _, n + 1, .cons r t => .cons r (RepL.eraseIdx n t)
def fAppend (xs ds : List D) : Option (D × List D) := match ds with
  | [d] => if xs.length < bigN then some (.non, xs ++ [d]) else none
  | _ => none
def fPop (xs ds : List D) : Option (D × List D) := match ds with
  | [] => xs.getLast?.map fun d => (d, xs.dropLast)
  | _ => none
def fPopAt (xs ds : List D) : Option (D × List D) := match ds with
  | [.int i] => if xs.length ≤ bigN then (ixN xs.length i).bind fun j => (xs[j]?).map fun d => (d, xs.eraseIdx j) else none
  | _ => none
def fInsert (xs ds : List D) : Option (D × List D) := match ds with
  | [.int i, d] => if xs.length < bigN ∧ 0 ≤ i ∧ i < 1000000000 then some (.non, xs.take i.toNat ++ [d] ++ xs.drop i.toNat) else none
  | _ => none
def fExtend (xs ds : List D) : Option (D × List D) := match ds with
  | [.lst ys] => if xs.length + ys.length ≤ bigN then some (.non, xs ++ ys) else none
  | _ => none
def fReverse (xs ds : List D) : Option (D × List D) := match ds with
  | [] => some (.non, xs.reverse)
  | _ => none
variable (i : Nat)
theorem de_append {p2 : Pos} (ha : DA X g W [e] ma) (hN : X.N[i]? = some x := by rfl) (hv : Vis X.env.scope x := by first | exact Or.inl rfl | exact Or.inr (Or.inl rfl) | exact Or.inr (Or.inr rfl)) (hd : (x == ("__debug__" : Str)) = false := by decide) (hcd : (x == ("__classdict__" : Str)) = false := by decide)
    (hbase : attributeBase (.Name x p2) "append" X.env (eval (.Name x p2) X.env) = eval (.Name x p2) X.env := by rfl)
    (hfew : ((backTo pos (starEach [e] X.env)).all (fun x => !x.1) && (backToKw pos (keywordEach [] X.env)).all (fun x => x.1.isSome)
      && decide (([e] : List Expr).length + ([] : List Keyword).length + (if ([] : List Keyword).isEmpty then 0 else 1) < 30)) = true := by rfl)
    (hline : (apos.endLine == pos.line) = true := by rfl) (hs : starEach [e] X.env = (false, eval e X.env) :: starEach [] X.env := by rfl) (hplain : (backTo pos (starEach [] X.env)).any (·.1) = false := by rfl) :
    DE X g W (.Call (.Attribute (.Name x p2) "append" apos) [e] [] pos) (mMeth i fAppend ma) := by
  refine ⟨PE.imp (pe_bm PySem.F.plainAttrs_list PySem.F.slot_list_append PySem.F.type_list_append mt_append (pe_var (i := i) hN hv hd hcd) ha.pa hbase hfew hline hs hplain) fun σ H Q h => ?_⟩
  obtain ⟨a, hv, ⟨lv0, h0⟩, hq⟩ := meth_ok h
  refine ⟨_, hv, tyL h0, hq.mono fun vs H1 ⟨S, lv, xs, ds, r, ys, h1, rl, ra, hf, q⟩ => ?_⟩
  unfold fAppend at hf
  split at hf
  · split at hf
    · rename_i hl
      cases hf
      cases ra with
      | cons rd rn =>
        cases rn
        exact ⟨a, lv, _, rfl, rfl, h1, by rw [rl.length]; exact Nat.lt_of_lt_of_le hl bigN_le, q _ _ (rl.append (.cons rd .nil)) .non⟩
    · cases hf
  · cases hf
theorem de_pop {p2 : Pos} (hN : X.N[i]? = some x := by rfl) (hv : Vis X.env.scope x := by first | exact Or.inl rfl | exact Or.inr (Or.inl rfl) | exact Or.inr (Or.inr rfl)) (hd : (x == ("__debug__" : Str)) = false := by decide) (hcd : (x == ("__classdict__" : Str)) = false := by decide)
    (hbase : attributeBase (.Name x p2) "pop" X.env (eval (.Name x p2) X.env) = eval (.Name x p2) X.env := by rfl) (hline : (apos.endLine == pos.line) = true := by rfl) :
    DE X g W (.Call (.Attribute (.Name x p2) "pop" apos) [] [] pos) (mMeth i fPop mNil) := by
  refine ⟨PE.imp (pe_bm0 PySem.F.plainAttrs_list PySem.F.slot_list_pop PySem.F.type_list_pop mt_pop (pe_var (i := i) hN hv hd hcd) hbase hline) fun σ H Q h => ?_⟩
  obtain ⟨a, hv, ⟨lv0, h0⟩, τ, S, A, hq⟩ := meth_ok h
  refine ⟨_, hv, tyL h0, ?_⟩
  obtain ⟨S, lv, xs, ds, r, ys, h1, rl, ra, hf, q⟩ := FinP.here A hq [] .nil
  cases ra
  unfold fPop at hf
  dsimp only at hf
  cases q2 : xs.getLast? with
  | none => rw [q2] at hf; cases hf
  | some d =>
    rw [q2] at hf
    cases hf
    rw [List.getLast?_eq_getElem?] at q2
    obtain ⟨v, q3, rv⟩ := rl.get q2
    refine ⟨a, lv, v, rfl, rfl, h1, by rw [rl.length]; exact q3, q _ _ ?_ rv⟩
    rw [List.dropLast_eq_take, List.dropLast_eq_take, rl.length]
    exact rl.take _
theorem de_popAt {p2 : Pos} (ha : DA X g W [e] ma) (hN : X.N[i]? = some x := by rfl) (hv : Vis X.env.scope x := by first | exact Or.inl rfl | exact Or.inr (Or.inl rfl) | exact Or.inr (Or.inr rfl)) (hd : (x == ("__debug__" : Str)) = false := by decide) (hcd : (x == ("__classdict__" : Str)) = false := by decide)
    (hbase : attributeBase (.Name x p2) "pop" X.env (eval (.Name x p2) X.env) = eval (.Name x p2) X.env := by rfl)
    (hfew : ((backTo pos (starEach [e] X.env)).all (fun x => !x.1) && (backToKw pos (keywordEach [] X.env)).all (fun x => x.1.isSome)
      && decide (([e] : List Expr).length + ([] : List Keyword).length + (if ([] : List Keyword).isEmpty then 0 else 1) < 30)) = true := by rfl)
    (hline : (apos.endLine == pos.line) = true := by rfl) (hs : starEach [e] X.env = (false, eval e X.env) :: starEach [] X.env := by rfl) (hplain : (backTo pos (starEach [] X.env)).any (·.1) = false := by rfl) :
    DE X g W (.Call (.Attribute (.Name x p2) "pop" apos) [e] [] pos) (mMeth i fPopAt ma) := by
  refine ⟨PE.imp (pe_bm PySem.F.plainAttrs_list PySem.F.slot_list_pop PySem.F.type_list_pop mt_popAt (pe_var (i := i) hN hv hd hcd) ha.pa hbase hfew hline hs hplain) fun σ H Q h => ?_⟩
  obtain ⟨a, hv, ⟨lv0, h0⟩, hq⟩ := meth_ok h
  refine ⟨_, hv, tyL h0, hq.mono fun vs H1 ⟨S, lv, xs, ds, r, ys, h1, rl, ra, hf, q⟩ => ?_⟩
  unfold fPopAt at hf
  split at hf
  · rename_i n
    split at hf
    · rename_i hl
      cases q2 : ixN xs.length n with
      | none => rw [q2] at hf; cases hf
      | some j =>
        rw [q2] at hf
        dsimp only [Option.bind_some] at hf
        cases q3 : xs[j]? with
        | none => rw [q3] at hf; cases hf
        | some d =>
          rw [q3] at hf
          cases hf
          obtain ⟨z1, z2, z3, z4⟩ := ixN_seq q2
          obtain ⟨v, q4, rv⟩ := rl.get q3
          cases ra with
          | cons rd rn =>
            cases rn
            cases rd
            have hb : xs.length ≤ 1000000 := hl
            refine ⟨a, lv, n, j, v, rfl, rfl, h1, by omega, by omega, by rw [rl.length]; exact z1, q4, q _ _ ?_ rv⟩
            exact rl.eraseIdx j
    · cases hf
  · cases hf
theorem de_insert {e2 : Expr} {p2 : Pos} (ha : DA X g W [e, e2] ma) (hN : X.N[i]? = some x := by rfl) (hv : Vis X.env.scope x := by first | exact Or.inl rfl | exact Or.inr (Or.inl rfl) | exact Or.inr (Or.inr rfl)) (hd : (x == ("__debug__" : Str)) = false := by decide) (hcd : (x == ("__classdict__" : Str)) = false := by decide)
    (hbase : attributeBase (.Name x p2) "insert" X.env (eval (.Name x p2) X.env) = eval (.Name x p2) X.env := by rfl)
    (hfew : ((backTo pos (starEach [e, e2] X.env)).all (fun x => !x.1) && (backToKw pos (keywordEach [] X.env)).all (fun x => x.1.isSome)
      && decide (([e, e2] : List Expr).length + ([] : List Keyword).length + (if ([] : List Keyword).isEmpty then 0 else 1) < 30)) = true := by rfl)
    (hline : (apos.endLine == pos.line) = true := by rfl) (hs : starEach [e, e2] X.env = (false, eval e X.env) :: starEach [e2] X.env := by rfl) (hplain : (backTo pos (starEach [e2] X.env)).any (·.1) = false := by rfl) :
    DE X g W (.Call (.Attribute (.Name x p2) "insert" apos) [e, e2] [] pos) (mMeth i fInsert ma) := by
  refine ⟨PE.imp (pe_bm PySem.F.plainAttrs_list PySem.F.slot_list_insert PySem.F.type_list_insert mt_insert (pe_var (i := i) hN hv hd hcd) ha.pa hbase hfew hline hs hplain) fun σ H Q h => ?_⟩
  obtain ⟨a, hv, ⟨lv0, h0⟩, hq⟩ := meth_ok h
  refine ⟨_, hv, tyL h0, hq.mono fun vs H1 ⟨S, lv, xs, ds, r, ys, h1, rl, ra, hf, q⟩ => ?_⟩
  unfold fInsert at hf
  split at hf
  · split at hf
    · rename_i hl
      cases hf
      cases ra with
      | cons rd rn =>
        cases rd
        cases rn with
        | cons rd2 rn =>
          cases rn
          exact ⟨a, lv, _, _, rfl, rfl, h1, by rw [rl.length]; exact Nat.lt_of_lt_of_le hl.1 bigN_le, hl.2.1, by omega, q _ _ (((rl.take _).append (.cons rd2 .nil)).append (rl.drop _)) .non⟩
    · cases hf
  · cases hf
theorem de_extend {p2 : Pos} (ha : DA X g W [e] ma) (hN : X.N[i]? = some x := by rfl) (hv : Vis X.env.scope x := by first | exact Or.inl rfl | exact Or.inr (Or.inl rfl) | exact Or.inr (Or.inr rfl)) (hd : (x == ("__debug__" : Str)) = false := by decide) (hcd : (x == ("__classdict__" : Str)) = false := by decide)
    (hbase : attributeBase (.Name x p2) "extend" X.env (eval (.Name x p2) X.env) = eval (.Name x p2) X.env := by rfl)
    (hfew : ((backTo pos (starEach [e] X.env)).all (fun x => !x.1) && (backToKw pos (keywordEach [] X.env)).all (fun x => x.1.isSome)
      && decide (([e] : List Expr).length + ([] : List Keyword).length + (if ([] : List Keyword).isEmpty then 0 else 1) < 30)) = true := by rfl)
    (hline : (apos.endLine == pos.line) = true := by rfl) (hs : starEach [e] X.env = (false, eval e X.env) :: starEach [] X.env := by rfl) (hplain : (backTo pos (starEach [] X.env)).any (·.1) = false := by rfl) :
    DE X g W (.Call (.Attribute (.Name x p2) "extend" apos) [e] [] pos) (mMeth i fExtend ma) := by
  refine ⟨PE.imp (pe_bm PySem.F.plainAttrs_list PySem.F.slot_list_extend PySem.F.type_list_extend mt_extend (pe_var (i := i) hN hv hd hcd) ha.pa hbase hfew hline hs hplain) fun σ H Q h => ?_⟩
  obtain ⟨a, hv, ⟨lv0, h0⟩, τ, S0, A, hq⟩ := meth_okA h
  refine ⟨_, hv, tyL h0, τ, S0, A, hq.mono fun τ1 rs H1 S1 A1 _ q vs rvs => ?_⟩
  obtain ⟨S, lv, xs, ds, r, ys, h1, le, rl, ra, hf, q⟩ := q vs rvs
  unfold fExtend at hf
  split at hf
  · split at hf
    · rename_i hl
      cases hf
      cases ra with
      | cons rd rn =>
        cases rn
        cases rd with
        | lst hb rb => exact ⟨a, _, lv, _, rfl, rfl, h1, le _ _ hb, by rw [rl.length, rb.length]; exact Nat.le_trans hl bigN_le, q _ _ (rl.append rb) .non⟩
    · cases hf
  · cases hf
theorem de_reverse {p2 : Pos} (hN : X.N[i]? = some x := by rfl) (hv : Vis X.env.scope x := by first | exact Or.inl rfl | exact Or.inr (Or.inl rfl) | exact Or.inr (Or.inr rfl)) (hd : (x == ("__debug__" : Str)) = false := by decide) (hcd : (x == ("__classdict__" : Str)) = false := by decide)
    (hbase : attributeBase (.Name x p2) "reverse" X.env (eval (.Name x p2) X.env) = eval (.Name x p2) X.env := by rfl) (hline : (apos.endLine == pos.line) = true := by rfl) :
    DE X g W (.Call (.Attribute (.Name x p2) "reverse" apos) [] [] pos) (mMeth i fReverse mNil) := by
  refine ⟨PE.imp (pe_bm0 PySem.F.plainAttrs_list PySem.F.slot_list_reverse PySem.F.type_list_reverse mt_reverse (pe_var (i := i) hN hv hd hcd) hbase hline) fun σ H Q h => ?_⟩
  obtain ⟨a, hv, ⟨lv0, h0⟩, τ, S, A, hq⟩ := meth_ok h
  refine ⟨_, hv, tyL h0, ?_⟩
  obtain ⟨S, lv, xs, ds, r, ys, h1, rl, ra, hf, q⟩ := FinP.here A hq [] .nil
  cases ra
  cases hf
  exact ⟨a, lv, rfl, rfl, h1, q _ _ rl.reverse .non⟩
end

/-! ### name op= e, ints -/
def mAug (i : Nat) (f : Int → Int → Option Int) (me : DS → Res RV) : DS → SRes := fun τ => match τ[i]? with
  | some (.dat (.int a)) => (me τ).toS fun r τ1 => match asInt r with
    | some b => (match f a b with
      | some c => .nx (τ1.set i (.dat (.int c)))
      | none => .stuck)
    | none => .stuck
  | _ => .stuck
section
variable {X : Cx} {g : Gm} {W : WX} {k : Nat → Bool} {e : Expr} {me : DS → Res RV} {pos pos' : Pos} {x : Str}
theorem ds_aug (i : Nat) {op : Operator} {f : Int → Int → Option Int} (hN : X.N.Nodup) (he : DE X g W e me) (ho : PIp X op fun x y H Q => ∃ a b c, x = .int a ∧ y = .int b ∧ f a b = some c ∧ Q (.int c) H) (hk : k i = false := by rfl) (hi : X.N[i]? = some x := by rfl) (hx : Loc X.env.scope x := by first | exact Or.inl rfl | exact Or.inr rfl)
    (hf : X.fn x = true ∨ X.env.scope.names.lookup x = some .local := by first | exact .inl rfl | exact .inr rfl | assumption) : DSt X g W k (.AugAssign (.Name x pos') op e pos) (mAug i f me) := by
  refine ⟨PS.imp (ps_aug hN hi hx he.pe ho hf) fun D σ H ⟨τ, S, A, h⟩ => ?_⟩
  unfold mAug at h
  cases q : τ[i]? with
  | none => rw [q] at h; exact h.elim
  | some sv =>
    rw [q] at h
    cases sv with
    | emp => exact h.elim
    | own c => exact h.elim
    | dat d =>
      cases d with
      | int a =>
        obtain ⟨v, e1, r⟩ := A.dat i _ q
        cases r
        refine ⟨_, e1, τ, S, A, (FinS.toS h).mono fun τ1 r H1 S1 A1 e2 h1 y rv => ?_⟩
        cases e3 : asInt r with
        | none => rw [e3] at h1; exact h1.elim
        | some b =>
          rw [e3] at h1
          have z := asInt_some e3
          subst z
          cases rv with
          | dat rb =>
            cases rb
            dsimp only at h1
            cases q4 : f a b with
            | none => rw [q4] at h1; exact h1.elim
            | some c =>
              rw [q4] at h1
              obtain ⟨A2, e2⟩ := A1.set i (.int c)
              exact ⟨a, b, c, rfl, rfl, q4, h1 _ _ _ A2 e2 (Pr.set hk)⟩
      | _ => exact h.elim
theorem ip_addO : PIp X .Add fun x y H Q => ∃ a b c, x = .int a ∧ y = .int b ∧ some (a + b) = some c ∧ Q (.int c) H := by
  intro pins s σ H x y v u Q I r1 r2 h
  obtain ⟨i, j, c, e1, e2, e3, q⟩ := h
  cases e3
  exact ip_add pins s σ H x y v u Q I r1 r2 ⟨i, j, e1, e2, q⟩
theorem ip_subO : PIp X .Sub fun x y H Q => ∃ a b c, x = .int a ∧ y = .int b ∧ some (a - b) = some c ∧ Q (.int c) H := by
  intro pins s σ H x y v u Q I r1 r2 h
  obtain ⟨i, j, c, e1, e2, e3, q⟩ := h
  cases e3
  exact ip_sub pins s σ H x y v u Q I r1 r2 ⟨i, j, e1, e2, q⟩
end

/-! ### x[i] = e, x the name of a slot that owns a list -/
def mSetIx (i : Nat) (mi me : DS → Res RV) : DS → SRes := fun τ => (me τ).toS fun r τ1 => match τ1[i]? with
  | some (.own (.lst _)) => (mi τ1).toS fun q τ2 => (force r τ2).toS fun d τ3 => match asInt q, τ3[i]? with
    | some n, some (.own (.lst xs)) => (match ixN xs.length n with
      | some j => .nx (τ3.set i (.own (.lst (xs.set j d))))
      | none => .stuck)
    | _, _ => .stuck
  | _ => .stuck

/-! ### zip and enumerate -/
def zipD (ds : List D) (τ : DS) : Res (List D) := match ds with
  | [.lst a, .lst b] => .ok ((a.zip b).map fun p => .tup [p.1, p.2]) τ
  | [.tup a, .tup b] => .ok ((a.zip b).map fun p => .tup [p.1, p.2]) τ
  | _ => .stuck
def enumL : Nat → List D → List D
  | _, [] => []
  | n, d :: ds => .tup [.int (n : Nat), d] :: enumL (n + 1) ds
def enumD (ds : List D) (τ : DS) : Res (List D) := match ds with
  | [.lst a] => .ok (enumL 0 a) τ
  | _ => .stuck
theorem enumL_get : ∀ {ds : List D} {n i : Nat} {d : D}, (enumL n ds)[i]? = some d → ∃ x, ds[i]? = some x ∧ d = .tup [.int ((n + i : Nat) : Int), x]
  | [], _, _, _, h => by simp [enumL] at h
  | x :: ds, n, 0, d, h => by simp [enumL] at h; exact ⟨x, rfl, by rw [← h]; rfl⟩
  | x :: ds, n, i + 1, d, h => by
    unfold enumL at h
    rw [List.getElem?_cons_succ] at h
    obtain ⟨y, h1, h2⟩ := enumL_get h
    exact ⟨y, h1, by rw [h2, show n + 1 + i = n + (i + 1) by omega]⟩
theorem enumL_length : ∀ (ds : List D) (n : Nat), (enumL n ds).length = ds.length
  | [], _ => rfl
  | _ :: ds, n => by unfold enumL; rw [List.length_cons, List.length_cons, enumL_length ds]
section
variable {X : Cx} {g : Gm} {W : WX} {e e2 : Expr} {ma : DS → Res (List RV)} {pos p tpos : Pos} {elts : List Expr} {kk : Nat}
/-- a walk that hands out new pairs -/
theorem itok_pairs {K : PySem.W.Frag} {J : It} {S1 : Hp} {items : List (D × D)} (go : ∀ i H S, Same S1 S → Same S H → ∀ p, items[i]? = some p → J.go i H ∧ ∀ x H', J.yld i H x H' → ∃ T u v, x = .ref T ∧ H T = none ∧ H' = upd H T (.tup [u, v]) ∧ Rep g K S u p.1 ∧ Rep g K S v p.2)
    (stop : ∀ i H S, Same S1 S → Same S H → items.length ≤ i → J.stop i H) : ItOk g K J S1 (items.map fun p => .tup [p.1, p.2]) := by
  intro i H S s1 s2
  refine ⟨fun d e => ?_, fun hl => stop i H S s1 s2 (by simpa using hl)⟩
  rw [List.getElem?_map] at e
  cases q : items[i]? with
  | none => rw [q] at e; cases e
  | some pr =>
    rw [q] at e
    cases e
    obtain ⟨g1, g2⟩ := go i H S s1 s2 pr q
    refine ⟨g1, fun x H' y => ?_⟩
    obtain ⟨T, u, v, rfl, hT, rfl, r1, r2⟩ := g2 x H' y
    have nT : S T = none := Same.of_le s2 hT
    have sm : Same S (upd S T (.tup [u, v])) := Same.upd_new nT
    refine ⟨upd S T (.tup [u, v]), sm, fun b o e => ?_, Same.upd_new hT, .tup (SqT.of upd_same) (.cons (r1.mono sm) (.cons (r2.mono sm) .nil)), fun a n hn => ?_⟩
    · by_cases hb : b = T
      · subst hb; rw [upd_same] at e ⊢; exact e
      · rw [upd_ne hb] at e ⊢; exact s2 _ _ e
    · have ne : a ≠ T := fun z => hn (by rw [z]; exact hT)
      rw [upd_ne ne]; exact n
theorem zip_get {α β : Type} {as : List α} {bs : List β} {i : Nat} {p : α × β} (h : (as.zip bs)[i]? = some p) : as[i]? = some p.1 ∧ bs[i]? = some p.2 := by
  rw [List.getElem?_zip_eq_some] at h
  exact h
theorem di_zip (hg : Gl X "zip") (hm : X.mg "zip" = none) (ha : DA X g W [e, e2] ma) (hs : starEach [e, e2] X.env = (false, eval e X.env) :: starEach [e2] X.env := by rfl) (hpl : (backTo pos (starEach [e2] X.env)).any (·.1) = false := by rfl) :
    DI X g W (.Tuple elts kk tpos) (.Call (.Name "zip" p) [e, e2] [] pos) (mFast ma zipD) := by
  refine ⟨PI.imp (RZ.pi_zipA hg hm ha.pa hs hpl) fun σ H R h => (LI.fast h).mono fun vs H1 ⟨τ0, S0, τ, S, ds, A, ex, rl, h1⟩ => ?_⟩
  unfold zipD at h1
  split at h1
  · rename_i da db
    cases rl with
    | cons ra rl =>
      cases rl with
      | cons rb rl =>
        cases rl
        cases ra with
        | @lst a va _ ha ra =>
          cases rb with
          | @lst b vb _ hb rb =>
            refine ⟨a, b, va, vb, rfl, .inl ⟨SqL.of (A.le _ _ ha), SqL.of (A.le _ _ hb), FinP.here A h1 _ (itok_pairs (fun i H S' s1 s2 pr q => ?_) fun i H S' s1 s2 hl => ?_)⟩⟩
            · obtain ⟨q1, q2⟩ := zip_get q
              obtain ⟨v1, z1, r1⟩ := ra.get q1
              obtain ⟨v2, z2, r2⟩ := rb.get q2
              have h1' : SqL X.K H a va := SqL.of (s2 _ _ (s1 _ _ ha))
              have h2' : SqL X.K H b vb := SqL.of (s2 _ _ (s1 _ _ hb))
              refine ⟨⟨va, vb, v1, v2, h1', h2', z1, z2⟩, fun x H' y => ?_⟩
              obtain ⟨T, u, v, rfl, hT, rfl, y1, y2⟩ := y
              have e1 := y1 _ h1'
              have e2 := y2 _ h2'
              rw [z1] at e1; cases e1
              rw [z2] at e2; cases e2
              exact ⟨T, _, _, rfl, hT, rfl, r1.mono s1, r2.mono s1⟩
            · refine ⟨va, vb, SqL.of (s2 _ _ (s1 _ _ ha)), SqL.of (s2 _ _ (s1 _ _ hb)), ?_⟩
              rw [ra.length, rb.length]
              rw [List.length_zip] at hl
              omega
  · rename_i da db
    cases rl with
    | cons ra rl =>
      cases rl with
      | cons rb rl =>
        cases rl
        cases ra with
        | @tup a va _ ha ra =>
          cases rb with
          | @tup b vb _ hb rb =>
            refine ⟨a, b, va, vb, rfl, .inr ⟨Same.seqT A.le ha, Same.seqT A.le hb, FinP.here A h1 _ (itok_pairs (fun i H S' s1 s2 pr q => ?_) fun i H S' s1 s2 hl => ?_)⟩⟩
            · obtain ⟨q1, q2⟩ := zip_get q
              obtain ⟨v1, z1, r1⟩ := ra.get q1
              obtain ⟨v2, z2, r2⟩ := rb.get q2
              have h1' : SqT X.K H a va := Same.seqT s2 (Same.seqT s1 ha)
              have h2' : SqT X.K H b vb := Same.seqT s2 (Same.seqT s1 hb)
              refine ⟨⟨va, vb, v1, v2, h1', h2', z1, z2⟩, fun x H' y => ?_⟩
              obtain ⟨T, u, v, rfl, hT, rfl, y1, y2⟩ := y
              have e1 := y1 _ h1'
              have e2 := y2 _ h2'
              rw [z1] at e1; cases e1
              rw [z2] at e2; cases e2
              exact ⟨T, _, _, rfl, hT, rfl, r1.mono s1, r2.mono s1⟩
            · refine ⟨va, vb, Same.seqT s2 (Same.seqT s1 ha), Same.seqT s2 (Same.seqT s1 hb), ?_⟩
              rw [ra.length, rb.length]
              rw [List.length_zip] at hl
              omega
  · exact h1.elim
end

/-! ### list(reversed(x)) -/
section
variable {prog : Program} {w : World} {A : Around} {E : Value → Shared → Prop} {s : Shared}
theorem extend_rev {R : Result → Shared → Prop} {it l : Addr} {items : Array Value} (hh : A.handled = none) (hit : s.heap.IsRevIter it l ((items.size : Int) - 1)) (hl : s.heap.IsList l items) (hne : l ≠ it) (hn : items.size ≤ sizeLine) (S : Addr) (res : Value) (c₀ : Nat)
    (hS : s.heap.get? S = some { cls := .type "list", data := .seq #[] c₀ }) (hSi : S ≠ it) (hSl : S ≠ l)
    (hR : ∀ h' tk acc' c', (∀ b o, b ≠ S → b ≠ it → s.heap.get? b = some o → h'.get? b = some o) → h'.get? S = some { cls := .type "list", dict := none, data := .seq acc' c', slots := #[] } →
      ItemsOf (fun i v => items[items.size - 1 - i]? = some v) acc' items.size → R (.ok (.ret res)) { s with heap := h', toks := tk }) :
    wpAny (model prog w) A.in1 (Builtin.List.listExtendWith (.ref S) (.ref it) res)
      (fun fin s' => match fin with | .done f => R (.ok f) s' | .again c' => c'.quiet = true ∧ codeAny (model prog w) A c' R s') (fun e s' => R (.error e) s') s := by
  have W := (Walks.listRev (prog := prog) (w := w) (A := A.in1) hh it l hne items).toS
  have hSf : S ∉ [it, l] := by simp only [List.mem_cons, List.not_mem_nil, or_false, not_or]; exact ⟨hSi, hSl⟩
  have hT : s.TypeIs (.ref it) "list_reverseiterator" := Heap.IsRevIter.typeIs hit
  have h1 : Builtin.List.listSameRef (.ref S) (.ref it) = false := by simp [Builtin.List.listSameRef, hSi]
  unfold Builtin.List.listExtendWith
  refine wpAny_bind (wpAny_typeOf hT ?_)
  rw [if_neg (by rw [h1]; decide)]
  refine wpAny_bind (wpAny_pyIter_revIter hit ?_)
  refine wpAny_bind (wpAny_holding ?_)
  unfold Builtin.List.listLengthHint
  refine wpAny_bind (wpAny_specialOf hT RT.nolen_lri ?_)
  show wpAny _ A.in1 (specialOf (Value.ref it) (Str.ofString "__length_hint__") >>= _) _ _ _
  refine wpAny_bind (wpAny_specialOf hT RT.hint_lri ?_)
  generalize hid : ("list_reverseiterator.__length_hint__" : String) = id0
  wp_delta
  rw [show splitId id0 = some ("list_reverseiterator", "__length_hint__") from by subst hid; decide +kernel]
  subst hid
  refine wpAny_bind (wpAny_isInstance (b := true) hT (by rw [isSubtype_type]; kernel_rfl) ?_)
  refine wpAny_pure ?_
  rw [if_neg (by decide)]
  have e0 : ((items.size : Nat) : Int) - 1 - ((0 : Nat) : Int) = (items.size : Int) - 1 := by omega
  refine wpAny_pure ⟨plainId_quiet F.plain_extend_loop _, codeAny_extend_loopS W hn _ hSf _ items.size 0 _ _ _ rfl (Nat.zero_le _) ⟨Nat.zero_le _, by rw [e0]; exact hit, hl⟩ hS (ItemsOf.nil _) fun s' acc' c' hm hS' hacc => ?_⟩
  rw [Moved.eq_with hm]
  refine hR s'.heap s'.toks acc' c' (fun b o hb hb2 e => hm.heap b o (fun hmem => ?_) e) hS' hacc
  rcases List.mem_cons.mp hmem with e' | hmem
  · exact hb e'
  · exact hb2 (List.mem_singleton.mp hmem)
theorem init_rev {R : Result → Shared → Prop} {it l : Addr} {items : Array Value} (hh : A.handled = none) (hit : s.heap.IsRevIter it l ((items.size : Int) - 1)) (hl : s.heap.IsList l items) (hne : l ≠ it) (hn : items.size ≤ sizeLine) (S : Addr)
    (hS : s.heap.get? S = some { cls := .type "list", data := .seq #[] }) (hSi : S ≠ it) (hSl : S ≠ l)
    (hR : ∀ h' tk acc' c', (∀ b o, b ≠ S → b ≠ it → s.heap.get? b = some o → h'.get? b = some o) → h'.get? S = some { cls := .type "list", dict := none, data := .seq acc' c', slots := #[] } →
      ItemsOf (fun i v => items[items.size - 1 - i]? = some v) acc' items.size → R (.ok (.ret .none)) { s with heap := h', toks := tk }) :
    wpAny (model prog w) A.in1 (Builtin.«list.__init__» ⟨[.ref S, .ref it], []⟩)
      (fun fin s' => match fin with | .done f => R (.ok f) s' | .again c' => c'.quiet = true ∧ codeAny (model prog w) A c' R s') (fun e s' => R (.error e) s') s := by
  show wpAny _ _ (do let old ← Builtin.List.listItems (.ref S); Builtin.List.listUpdate (.ref S) (fun _ => #[]); letGo old.toList.reverse; Builtin.List.listExtendWith (.ref S) (.ref it) .none) _ _ s
  refine wpAny_bind ?_
  unfold Builtin.List.listItems
  refine wpAny_bind (wpAny_seqItems hS rfl (wpAny_pure ?_))
  show wpAny _ _ (updateSeq S (fun _ => #[]) >>= fun _ => letGo (#[] : Array Value).toList.reverse >>= fun _ => Builtin.List.listExtendWith (.ref S) (.ref it) .none) _ _ s
  refine wpAny_bind (wpAny_updateSeq hS rfl ?_)
  have hS₂ := Heap.get?_update_self (Obj.mapSeq (fun _ => (#[] : Array Value))) hS rfl
  have oth : ∀ b o, b ≠ S → s.heap.get? b = some o → (s.heap.update S (Obj.mapSeq (fun _ => (#[] : Array Value)))).get? b = some o :=
    fun b o hb e => (Heap.get?_update_other _ _ (Ne.symm hb)).trans e
  refine wpAny_bind (wpAny_letGo ?_)
  have hl2 : (s.heap.update S (Obj.mapSeq (fun _ => (#[] : Array Value)))).IsList l items := by
    obtain ⟨o, ho, hc, n, hd⟩ := hl
    exact ⟨o, oth l o (Ne.symm hSl) ho, hc, n, hd⟩
  refine extend_rev (s := { s with heap := s.heap.update S (Obj.mapSeq (fun _ => (#[] : Array Value))) }) hh (hit.at fun o e => oth _ _ (Ne.symm hSi) e) hl2 hne hn S .none _ hS₂ hSi hSl fun h' tk acc' c' hk hS' hacc => ?_
  exact hR h' tk acc' c' (fun b o h1 h2 e => hk b o h1 h2 (oth b o h1 e)) hS' hacc
theorem call_list_rev {it l : Addr} {items : Array Value} {Q : Value → Shared → Prop} (hh : A.handled = none) (hit : s.heap.IsRevIter it l ((items.size : Int) - 1)) (hl : s.heap.IsList l items) (hne : l ≠ it) (hn : items.size ≤ sizeLine)
    (hQ : ∀ h' tk acc' c', (∀ b o, b ≠ it → s.heap.get? b = some o → h'.get? b = some o) → h'.get? s.heap.objs.size = some { cls := .type "list", dict := none, data := .seq acc' c', slots := #[] } →
      ItemsOf (fun i v => items[items.size - 1 - i]? = some v) acc' items.size → Q (.ref s.heap.objs.size) { s with heap := h', toks := tk }) :
    wpAny (model prog w) A (call (.type "list") [.ref it]) Q E s := by
  obtain ⟨oi, hoi, _⟩ := id hit
  obtain ⟨ol, hol, _⟩ := id hl
  have hSi : s.heap.objs.size ≠ it := Nat.ne_of_gt (Heap.lt_size hoi)
  have hSl : s.heap.objs.size ≠ l := Nat.ne_of_gt (Heap.lt_size hol)
  refine callType_codes (Q₁ := fun obj s₁ => obj = .ref s.heap.objs.size ∧ s₁ = { s with heap := s.heap.push { cls := .type "list", data := .seq #[] } }) F.called_list (F.typeCall_list_1 _) F.entry_list_init
    (code_list_new _ ⟨rfl, rfl⟩) fun obj s₁ h₁ => ?_
  obtain ⟨rfl, rfl⟩ := h₁
  have hS : (s.heap.push { cls := .type "list", data := .seq #[] }).get? s.heap.objs.size = some { cls := .type "list", data := .seq #[] } := Heap.get?_push_size _ rfl
  refine ⟨⟨_, hS, rfl⟩, F.args_list_init_2 _ _, init_rev (A := A.in1) (s := { s with heap := s.heap.push { cls := .type "list", data := .seq #[] } }) hh (hit.at fun o e => Heap.get?_push_of_some _ e) (hl.push _) hne hn _ hS hSi hSl fun h' tk acc' c' hk hS' hacc => ?_⟩
  exact ⟨rfl, hQ h' tk acc' c' (fun b o hb e => hk b o (Nat.ne_of_lt (Heap.lt_size e)) hb (Heap.get?_push_of_some _ e)) hS' hacc⟩
end
section
variable {X : Cx} {g : Gm} {W : WX} {e : Expr} {me : DS → Res RV}
/-- list(reversed(x)), x a list: a new list -/
def tListRev (K : PySem.W.Frag) (te : TE) : TE := fun σ H Q => te σ H fun v H1 => ∃ (a : Addr) (xs : List V), v = .ref a ∧ SqL K H1 a xs ∧ ∀ q, H1 q = none → Q (.ref q) (upd H1 q (.lst xs.reverse))
theorem pe_listRev {te : TE} {p p2 pos pos2 : Pos} (hc : X.calm = true) (hg : Gl X "list") (hm : X.mg "list" = none) (hg2 : Gl X "reversed") (hm2 : X.mg "reversed" = none) (he : PE X e te)
    (hs : starEach [e] X.env = (false, eval e X.env) :: starEach [] X.env := by rfl)
    (hs2 : starEach [.Call (.Name "reversed" p2) [e] [] pos2] X.env = (false, eval (.Call (.Name "reversed" p2) [e] [] pos2) X.env) :: starEach [] X.env := by rfl) :
    PE X (.Call (.Name "list" p) [.Call (.Name "reversed" p2) [e] [] pos2] [] pos) (tListRev X.K te) := by
  refine ⟨fun pins s σ H Q I h => ?_⟩
  refine Call_ (ld_blt I hg hm boot_list (PyProof.Rows.callWith_type1 (args_cons (Call_ (ld_blt I hg2 hm2 PyProof.Rows.boot_reversed (PyProof.Rows.callWith_type1 (args_cons (thn (he.run pins s σ H _ I h) fun u s1 ⟨v, H1, I1, r1, q1⟩ => args_nil ?_) hs) hs rfl))) hs2) hs2 rfl))
  obtain ⟨a, xs, ev, hq, q⟩ := q1
  subst ev
  obtain rfl : u = Value.ref a := r1
  obtain ⟨its, rv, p', hz⟩ := I1.list hq
  refine call_reversed_list p'.isList (args_nil ?_)
  have k0 : ∀ b o, s1.heap.get? b = some o → (s1.heap.push (revObj a ((its.toArray.size : Int) - 1))).get? b = some o := fun b o e => Heap.get?_push_of_some _ e
  have I2 : Inv X pins σ H1 { s1 with heap := s1.heap.push (revObj a ((its.toArray.size : Int) - 1)) } := I1.kept (t' := s1.toks) k0
  obtain ⟨f0, f1, f2, f3, f4, f5⟩ := I1.fpOk (H' := H1) (b := s1.heap.objs.size) (Nat.le_refl _) (I1.hok.fresh (Nat.le_refl _))
  have hl := p'.isList
  obtain ⟨ol, hol, _⟩ := id hl
  have hne : a ≠ s1.heap.objs.size := Nat.ne_of_lt (Heap.lt_size hol)
  have hn : its.toArray.size ≤ sizeLine := by rw [List.size_toArray, ← rv.length]; exact hz
  refine call_list_rev (s := { s1 with heap := s1.heap.push (revObj a ((its.toArray.size : Int) - 1)) }) (I1.ok.hd hc) ⟨_, Heap.get?_push_size _ rfl, rfl, rfl⟩ (hl.push _) hne hn fun h' tk acc c' hk hS' hi => ?_
  have k1 : ∀ b o, s1.heap.get? b = some o → h'.get? b = some o := fun b o e => hk b o (Nat.ne_of_lt (Heap.lt_size e)) (k0 b o e)
  have hq1 : s1.heap.objs.size ≤ (s1.heap.push (revObj a ((its.toArray.size : Int) - 1))).objs.size := by rw [Heap.size_push]; exact Nat.le_succ _
  refine ⟨.ref _, upd H1 _ (.lst xs.reverse), I1.laid (t' := tk) k1 hq1 (show ObjOk X.prog X.w _ _ _ (.lst xs.reverse) from ⟨by rw [List.length_reverse]; exact hz, acc.toList, c', RT.vals_rev rv hi, ?_⟩), rfl, q _ (I1.hok.fresh hq1)⟩
  rw [Array.toArray_toList]
  exact hS'
/-- a list turned round -/
def revD (d : D) : Option RV := match d with
  | .lst ds => some (.fr (.lst ds.reverse))
  | .rol ds => some (.fr (.lst ds.reverse))
  | _ => none
theorem de_listRev {p p2 pos pos2 : Pos} (hc : X.calm = true) (hg : Gl X "list") (hm : X.mg "list" = none) (hg2 : Gl X "reversed") (hm2 : X.mg "reversed" = none) (he : DE X g W e me)
    (hs : starEach [e] X.env = (false, eval e X.env) :: starEach [] X.env := by rfl)
    (hs2 : starEach [.Call (.Name "reversed" p2) [e] [] pos2] X.env = (false, eval (.Call (.Name "reversed" p2) [e] [] pos2) X.env) :: starEach [] X.env := by rfl) :
    DE X g W (.Call (.Name "list" p) [.Call (.Name "reversed" p2) [e] [] pos2] [] pos) (mUn revD me) := by
  refine ⟨PE.imp (pe_listRev hc hg hm hg2 hm2 he.pe hs hs2) fun σ H Q h => (one h).mono fun x H1 ⟨τ, S, dx, A, sx, en⟩ => ?_⟩
  unfold revD at en
  split at en
  · obtain ⟨p, vs, rfl, hp, r⟩ := sx.lst A.le
    exact ⟨p, vs, rfl, SqL.of hp, en.lst A r.reverse⟩
  · obtain ⟨p, vs, rfl, hp, r⟩ := sx.rol A.le
    exact ⟨p, vs, rfl, hp, en.lst A r.reverse⟩
  · exact en.elim
end
end DL

set_option maxHeartbeats 1000000
/-! DL10: try .. except X as e: return .., calls of values. -/
namespace DL
open PySem PySem.Spec PyProof.Rows L2

/-! ### calls of a value that is one of some defs -/
abbrev Tab := Nat → Option (Nat × (List D → FR))
def mCallV (T : Tab) (mf : DS → Res RV) (ma : DS → Res (List RV)) : DS → Res RV := fun τ => (mf τ).bind fun r τ1 => match r with
  | .dat (.sym n) => (match T n with
    | some (ar, F) => mCall ar F ma τ1
    | none => .stuck)
  | _ => .stuck
/-- the defs of a table keep their promises -/
def TabOk (X : Cx) (g : Gm) (T : Tab) : Prop := ∀ n ar F, T n = some (ar, F) → ∃ lv fd ps, FnOk X.prog X.w X.K X.mg X.base (L2.CX X.prog X.w) lv (g n) fd ps (spP g X.K ar F) ∧ Room lv X.A ∧ PySem.W.keepIn X.K (.ref (g n)) = true ∧ Binds X.K fd ps []
section
variable {X : Cx} {g : Gm} {W : WX} {T : Tab} {f e : Expr} {es : List Expr} {mf : DS → Res RV} {ma : DS → Res (List RV)} {pos : Pos}
theorem call_end {K : PySem.W.Frag} {F : List D → FR} {n : Nat} {σ : St} {H : Hp} {Q : VK} (h : LE g K W (mCall n F ma) σ H Q) : LA g K W ma σ H fun vs H1 => spP g K n F vs H1 Q (WE W σ) := by
  refine (LE.fast h).mono fun vs H1 ⟨τ, S, ds, A, al, rl, h1⟩ => ?_
  obtain ⟨hl, h2⟩ := fin_if h1
  refine ⟨S, ds, A.le, rl, hl, ?_⟩
  revert h2
  generalize F ds = r
  intro h2
  cases r with
  | stuck => exact h2.elim
  | err c => exact fun H' S' le x => let ⟨A', e'⟩ := A.back le x; h2 H' S' A' e'
  | ok r =>
    intro v H' S' le x rr
    obtain ⟨A', e'⟩ := A.back le x
    refine h2 H' S' A' e' v ?_
    cases rr with
    | dat r => exact .dat r
    | fr h0 hp n r =>
      refine .fr (al _ h0) hp n (fun z => ?_) r
      obtain ⟨o, z⟩ := A.own_some z
      rw [h0] at z; cases z
theorem de_callV (hT : TabOk X g T) (tk : Takes X W) (hf : DE X g W f mf) (ha : DA X g W (e :: es) ma) (he : starEach (e :: es) X.env = (false, eval e X.env) :: starEach es X.env := by rfl) (hpl : (backTo pos (starEach es X.env)).any (·.1) = false := by rfl)
    (hcall : ∀ {M : Model} {A : Around} {Q : Value → Shared → Prop} {E : Value → Shared → Prop} {s : Shared}, wpAny M A (eval f X.env) (fun v s' => wpAny M A (callWith pos v [] (backTo pos (starEach (e :: es) X.env)) (backToKw pos (keywordEach [] X.env))) Q E s') E s → wpAny M A (eval (.Call f (e :: es) [] pos) X.env) Q E s := by intros; exact Call_ (by assumption)) :
    DE X g W (.Call f (e :: es) [] pos) (mCallV T mf ma) := by
  refine ⟨⟨fun pins s σ H Q I h => hcall ?_⟩⟩
  have h' : LE g X.K W mf σ H fun x H1 => ∃ n ar F, x = .ref (g n) ∧ T n = some (ar, F) ∧ LA g X.K W ma σ H1 fun vs H2 => spP g X.K ar F vs H2 Q (WE W σ) := by
    refine (LE.bind h).mono fun x H1 ⟨τ1, S1, r, A1, rv, al, h1⟩ => ?_
    cases rv with
    | fr _ _ _ _ _ => exact (show False from h1).elim
    | slot _ => exact (show False from h1).elim
    | dat rd =>
      cases rd with
      | sym n =>
        dsimp only at h1
        cases q : T n with
        | none => rw [q] at h1; exact h1.elim
        | some p =>
          obtain ⟨ar, F⟩ := p
          rw [q] at h1
          exact ⟨n, ar, F, rfl, q, call_end (LE.of_fin A1 al h1)⟩
      | _ => exact (show False from h1).elim
  refine thn (hf.pe.run pins s σ H _ I h') fun v s1 ⟨x, H1, I1, r1, n, ar, F, ex, hn, q⟩ => ?_
  subst ex
  obtain rfl : v = Value.ref (g n) := r1
  obtain ⟨lv, fd, ps, G, hr, hk, hb⟩ := hT n ar F hn
  refine PySem.W.callWith_K (h₀ := X.base) I.ok.mod.kin hk (thn (ha.pa.run pos pins s1 σ H1 _ I1 q) fun us s2 ⟨vs, H2, I2, r, q2⟩ => ⟨I2.kIn, ?_⟩) he hpl
  exact run_fnS G hr hb (passAt tk σ) I2 r q2
end

/-! ### try: body, except C as e: return .. -/
def mTry (i : Nat) (cs : Nat → Option Bool) (mb : DS → SRes) (ms : Nat → DS → Res RV) : DS → SRes := fun τ => match mb τ with
  | .err c τ1 => (match cs c with
    | some true => if i < τ1.length then (match ms c (τ1.set i .emp) with
      | .ok r τ2 => retR r τ2
      | _ => .stuck) else .stuck
    | some false => .err c τ1
    | none => .stuck)
  | r => r
section
variable {X : Cx} {g : Gm} {W : WX} {k : Nat → Bool} {x n : Str} {cv : Value} {i : Nat} {body suite : List Stmt} {b₀ : Stmt} {np pos pos' : Pos} {mb : DS → SRes} {ms : Nat → DS → Res RV} {cs : Nat → Option Bool}
theorem Abs.setEmp {K : PySem.W.Frag} {σ : St} {τ : DS} {H S : Hp} (A : Abs g K σ H τ S) (i : Nat) (o : Option V) : Abs g K (σ.set i o) H (τ.set i .emp) S ∧ Ext σ τ H S (σ.set i o) (τ.set i .emp) H S := by
  have get : ∀ {j : Nat} {y : SV}, y ≠ .emp → (τ.set i SV.emp)[j]? = some y → τ[j]? = some y ∧ (σ.set i o)[j]? = σ[j]? := fun {j y} hy e => by
    rcases set_get e with ⟨_, z⟩ | ⟨hj, z⟩
    · exact absurd z.symm hy
    · exact ⟨z, List.getElem?_set_ne hj⟩
  refine ⟨⟨A.le, by simpa using A.len, fun j d e => ?_, fun j c e => ?_, fun j l c c' e1 e2 e3 => ?_⟩, Same.refl _, fun _ _ h n _ => ⟨h, n⟩, fun a ⟨j, c, e1, e2⟩ => .inl ?_, fun _ h => h⟩
  · obtain ⟨z, q⟩ := get (by simp) e
    rw [q]; exact A.dat j d z
  · obtain ⟨z, q⟩ := get (by simp) e
    rw [q]; exact A.own j c z
  · obtain ⟨z1, q1⟩ := get (by simp) e1
    obtain ⟨z2, q2⟩ := get (by simp) e2
    rw [q1, q2] at e3
    exact A.inj j l c c' z1 z2 e3
  · obtain ⟨z, q⟩ := get (by simp) e1
    rw [q] at e2
    exact ⟨j, c, z, e2⟩
/-- what is read of a suite: the exception at a stands in slot i -/
def LSu (g : Gm) (K : PySem.W.Frag) (k : Nat → Bool) (i : Nat) (a : Addr) (m : DS → Res RV) : TS := fun D σ H => σ[i]? = some (some (.ref a)) ∧ LS g K WF k (fun τ => (match m τ with
  | .ok r τ2 => retR r τ2
  | _ => .stuck)) D σ H
theorem ds_try (hs : X.stack = X.env :: X.outer) (hf : X.env.frame = some X.env.locals) (hN : X.N.Nodup) (hc : Names X x cv) (tk : Takes X W) (hcs : ∀ c b, cs c = some b → PySem.W.exmOne X.K (.ref (g c)) cv = some b)
    (hb : ∀ (W : WX) (pn : List (Addr × Obj)) (xe : Value → Shared → Prop), Takes (X.tr pn xe) W → PassesOwn (model X.prog X.w) X.A X.env xe → DSs (X.tr pn xe) g W k body mb)
    (hsu : ∀ (c : Nat) (a : Addr) (oe : Obj) (pn : List (Addr × Obj)), cs c = some true → Zc (.ref (g c)) none oe → (∃ vs, oe.data = .fields vs) → PSs (X.suite a ((a, oe) :: pn)) (b₀ :: suite) (LSu g X.K k i a (ms c)))
    (hk : k i = false := by rfl) (hi : X.N[i]? = some n := by rfl) (hln : X.env.kindOf n = some .local := by rfl) :
    DSt X g W k (.Try body [.ExceptHandler (some (.Name x np)) (some n) (b₀ :: suite) pos'] [] [] pos) (mTry i cs mb ms) := by
  refine ⟨PS.imp (ps_try_as (tb := fun W => LS g X.K W k mb) (ts := fun a cls d D σ H => ∃ c, cls = Value.ref (g c) ∧ d = none ∧ cs c = some true ∧ LSu g X.K k i a (ms c) D σ H) hs hf hN hi hln hc tk (fun W' pn xe tk' po => (hb W' pn xe tk' po).ps)
    (fun a oe cls d pn hz hfv => ⟨fun pins s σ H D I ⟨c, e1, e2, e3, h⟩ => ?_⟩)) fun D σ H ⟨τ, S, A, h⟩ => ⟨τ, S, A, ?_⟩⟩
  · subst e1 e2
    exact (hsu c a oe pn e3 hz hfv).run pins s σ H D I h
  · unfold mTry at h
    revert h
    generalize mb τ = r
    intro h
    cases r with
    | nx τ' => exact h
    | bk τ' => exact h
    | ct τ' => exact h
    | rt r τ' => exact h
    | stuck => exact h
    | err c τ1 =>
      intro σ' H' S' A' e' p'
      dsimp only at h
      cases q : cs c with
      | none => rw [q] at h; exact h.elim
      | some b =>
        rw [q] at h
        refine ⟨b, hcs c b q, fun hb a ha => ?_, fun hb => ?_⟩
        · subst hb
          dsimp only at h
          by_cases hl : i < τ1.length
          · rw [if_pos hl] at h
            obtain ⟨A2, e2⟩ := A'.setEmp i (some (.ref a))
            refine ⟨c, rfl, rfl, q, List.getElem?_set_self (by rw [A'.len]; exact hl), τ1.set i .emp, S', A2, ?_⟩
            have h2 := FinS.ext h (e'.trans e2) (p'.trans (Pr.set hk))
            show FinS g X.K WF k _ _ _ _ (match ms c (τ1.set i .emp) with
              | .ok r τ2 => retR r τ2
              | _ => .stuck) _
            revert h2
            generalize ms c (τ1.set i .emp) = r
            intro h2
            cases r with
            | err _ _ => exact h2.elim
            | stuck => exact h2.elim
            | ok r τ2 =>
              dsimp only at h2 ⊢
              revert h2
              unfold retR
              cases r with
              | dat d => exact fun h => h
              | fr c => exact fun h => h
              | slot j =>
                dsimp only
                generalize τ2[j]? = q
                cases q with
                | none => exact fun h => h
                | some sv => cases sv <;> exact fun h => h
          · rw [if_neg hl] at h; exact h.elim
        · subst hb
          exact h σ' H' S' A' e' p'

/-- except C as e: return [s0, s1][int(isinstance(e, C1))] -/
theorem suite_flag {X : Cx} {g : Gm} {k : Nat → Bool} {i c c1 : Nat} {a : Addr} {oe : Obj} {pn : List (Addr × Obj)} {n x1 : Str} {s0 s1 : Str} {b : Bool} {j0 j1 : Nat} {p0 p1 p2 p3 p4 p5 p6 p7 p8 pos9 pos : Pos}
    (C : ExcC X.K (g c)) (hz : Zc (.ref (g c)) none oe) (hfv : ∃ vs, oe.data = .fields vs) (hb : PySem.W.kitOne X.K (.ref (g c)) (.ref (g c1)) = some b)
    (hgI : Gl X "int") (hmI : X.mg "int" = none) (hgS : Gl X "isinstance") (hmS : X.mg "isinstance" = none) (hg1 : Gl X x1) (hm1 : X.mg x1 = some (.ref (g c1))) (hd1 : (x1 == ("__debug__" : Str)) = false)
    (hN : X.N[i]? = some n) (hv : Vis X.env.scope n) (hd : (n == ("__debug__" : Str)) = false) (hcd : (n == ("__classdict__" : Str)) = false)
    (hs0 : starEach [.Constant (.str s0) j0 p0, .Constant (.str s1) j1 p1] X.env = (false, eval (.Constant (.str s0) j0 p0) X.env) :: starEach [.Constant (.str s1) j1 p1] X.env := by rfl)
    (hs1 : starEach [.Constant (.str s1) j1 p1] X.env = (false, eval (.Constant (.str s1) j1 p1) X.env) :: starEach [] X.env := by rfl)
    (hs2 : starEach [.Name n p4, .Name x1 p5] X.env = (false, eval (.Name n p4) X.env) :: starEach [.Name x1 p5] X.env := by rfl)
    (hs3 : starEach [.Name x1 p5] X.env = (false, eval (.Name x1 p5) X.env) :: starEach [] X.env := by rfl)
    (hs4 : starEach [.Call (.Name "isinstance" p3) [.Name n p4, .Name x1 p5] [] p6] X.env = (false, eval (.Call (.Name "isinstance" p3) [.Name n p4, .Name x1 p5] [] p6) X.env) :: starEach [] X.env := by rfl)
    (hp2 : (backTo p6 (starEach [.Name x1 p5] X.env)).any (·.1) = false := by rfl) (hp3 : (backTo p7 (starEach [] X.env)).any (·.1) = false := by rfl) :
    PSs (X.suite a ((a, oe) :: pn)) [.Return (some (.Subscript (.List [.Constant (.str s0) j0 p0, .Constant (.str s1) j1 p1] p2) (.Call (.Name "int" p8) [.Call (.Name "isinstance" p3) [.Name n p4, .Name x1 p5] [] p6] [] p7) pos)) pos9]
      (LSu g X.K k i a fun τ => .ok (.dat (.str (if b then s1 else s0))) τ) := by
  refine PSs.imp (pss_one (ps_ret (pe_ix ix_list (pe_lst (pa_cons pe_str (pa_cons pe_str pa_nil hs1) hs0))
    (pe_callTy call_int1 hgI hmI boot_int (pa_cons (pe_callB (call_isE C hz hfv) hgS hmS boot_isinstance (pa_cons (pe_var (X := X.suite a ((a, oe) :: pn)) (i := i) hN hv hd hcd) (pa_cons (pe_glob (X := X.suite a ((a, oe) :: pn)) (v := .ref (g c1)) hg1 hm1 rfl hd1) pa_nil hs3) hs2) (he := hs2) (hpl := hp2)) pa_nil hs4) (he := hs4) (hpl := hp3)) (by intro _ _; rfl)))) fun D σ H ⟨hσ, τ, S, A, h⟩ => ?_
  refine ⟨by show 2 ≤ sizeLine; decide, fun p hp => ?_⟩
  refine ⟨_, hσ, .ref (g c1), .ref (g c1), b, rfl, fun u r => r, hb, .inr ⟨b, rfl, ?_⟩⟩
  refine ⟨p, _, _, .str (if b then s1 else s0), rfl, rfl, SqL.of upd_same, ?_, ?_⟩
  · cases b with
    | true => exact atI_nat (j := 1) rfl
    | false => exact atI_nat (j := 0) rfl
  · exact h σ _ _ _ (A.priv hp _) (A.ext_priv hp _) .refl (.dat (.str _))
end
end DL

set_option maxHeartbeats 1000000
/-! DL11: the law's end, facts of classes. -/
namespace DL
open PySem PySem.Spec PyProof.Rows L2

/-- what the end wishes of law: at every script True -/
def spEnd (K : PySem.W.Frag) : Sp := fun vs H Q _ => ∃ (a : Addr) (ns : List Int), vs = [.ref a] ∧ SqL K H a (ns.map V.int) ∧ ns.length ≤ 63 ∧ (∀ z ∈ ns, Builtin.Int.intBits z ≤ 1048576) ∧ ∀ H', Q (.bl true) H'
theorem repl_ints {g : Gm} {K : PySem.W.Frag} {S : Hp} : ∀ ns : List Int, RepL g K S (ns.map V.int) (ns.map D.int)
  | [] => .nil
  | n :: ns => .cons (.int n) (repl_ints ns)
section
variable {P : Program} {w : World} {K : PySem.W.Frag} {mg : Str → Option Value} {base : Heap} {g : Gm}
theorem law_of {lv : Nat} {f : Addr} {fd : FuncData} {F : List D → FR} {x : Str} (h : FnOk P w K mg base (L2.CX P w) lv f fd [x] (spP g K 1 F))
    (hF : ∀ ns : List Int, ns.length ≤ 63 → F [.rol (ns.map D.int)] = .ok (.dat (.bl true))) : FnOk P w K mg base (L2.CX P w) lv f fd [x] (spEnd K) := by
  refine h.imp fun vs H Q E ⟨a, ns, ev, hs, hl, _, q⟩ => ?_
  subst ev
  refine ⟨H, [.rol (ns.map D.int)], Same.refl H, .cons (.rol hs (repl_ints ns)) .nil, rfl, ?_⟩
  rw [hF ns hl]
  intro v H' S' le x r
  cases r with
  | dat r => cases r; exact q H'
end
theorem kit_refl {K : PySem.W.Frag} {v : Value} : PySem.W.kitOne K v v = some true := by
  unfold PySem.W.kitOne
  rw [if_pos (by simp)]
theorem kit_ref {K : PySem.W.Frag} {A C : Addr} {b : Bool} (ne : (A == C) = false) (h2 : PySem.W.isClsIn K C = true) (h3 : PySem.W.typeIn K (.ref C) = some (.type "type")) (h4 : PySem.W.subIn K (.ref A) (.ref C) = some b) : PySem.W.kitOne K (.ref A) (.ref C) = some b := by
  unfold PySem.W.kitOne
  rw [if_neg (by intro z; have z2 : A = C := by simpa using z
                 rw [z2] at ne; simp at ne)]
  have h2' : (PySem.W.clsIn K C).isSome = true := h2
  have e2 : ((PySem.W.clsIn K C).isSome && PySem.W.typeIn K (.ref C) == some (.type "type")) = true := by rw [h2', h3] <;> rfl
  show (if ((PySem.W.clsIn K C).isSome && PySem.W.typeIn K (.ref C) == some (.type "type")) = true then PySem.W.subIn K (.ref A) (.ref C) else none) = some b
  rw [if_pos e2]
  exact h4
theorem exm_own {K : PySem.W.Frag} {A C : Addr} {b : Bool} (h1 : PySem.W.subIn K (.ref C) (.type "BaseException") = some true) (h2 : PySem.W.isClsIn K C = true) (h3 : PySem.W.typeIn K (.ref C) = some (.type "type")) (h4 : PySem.W.subIn K (.ref A) (.ref C) = some b) :
    PySem.W.exmOne K (.ref A) (.ref C) = some b := by
  have e1 : (PySem.W.subIn K (.ref C) (.type "BaseException") == some true) = true := by rw [h1] <;> rfl
  have e2 : ((PySem.W.clsIn K C).isSome && PySem.W.typeIn K (.ref C) == some (.type "type")) = true := by
    have h2' : (PySem.W.clsIn K C).isSome = true := h2
    rw [h2', h3] <;> rfl
  show (if (PySem.W.subIn K (.ref C) (.type "BaseException") == some true) = true then (if ((PySem.W.clsIn K C).isSome && PySem.W.typeIn K (.ref C) == some (.type "type")) = true then PySem.W.subIn K (.ref A) (.ref C) else none) else none) = some b
  rw [if_pos e1, if_pos e2]
  exact h4
theorem end_walk {l : PySem.W.OpenLaw} {k : Nat} {q : Program} {loose : List Str} {XP : (Str → Option Value) → Heap → Prop} {YP : World → Heap → Prop} {d : DefRec} {K : Params → PySem.W.Frag}
    (hn : l.most = some 63) (hdf : d.params.defaults = []) (hr : Room k callerA)
    (hY : ∀ (w : World) (h : Heap), YP w h → (K w.params).In h)
    (F : ∀ (w : World) (mg : Str → Option Value) (fa : Addr) (h : Heap), (K w.params).In h → h.Ns mainGlobals mg → mg d.name = some (.ref fa) →
      ∃ fd : FuncData, (∀ (s : Shared) (u : Value), BindsTo s fd ⟨[u], []⟩ [("script", u)]) ∧
        ∀ base : Heap, (K w.params).In base → base.Ns mainGlobals mg → FnOk l.prog w (K w.params) mg base (L2.CX l.prog w) k fa fd ["script"] (spEnd (K w.params))) :
    PySem.W.WalkO q loose XP YP l.row.toRowW d [] (fun f vs => PySem.call f vs) :=
  L2.walk_ofB (n := 63) (CX := fun w => L2.CX l.prog w) hn (by decide) hdf hr hY F (fun _ _ a ns hl hb _ hS => ⟨a, ns, rfl, hS, hl, hb, fun _ => rfl⟩) fun w H s e s' z => by
    obtain ⟨_, _, _, _, _, _, _, _, _, _, _, _, _, _, _, _, z⟩ := z
end DL

set_option maxHeartbeats 1000000
/-! DL12: reckoning with the functions on data: rules that rewrite from the left, none under a binder. -/
namespace DL
open PySem

section
variable {α β : Type} {a : α} {τ τ1 τ2 : DS} {f : α → DS → Res β} {fs : α → DS → SRes} {c : Nat}
theorem v_bok : (Res.ok a τ).bind f = f a τ := (rfl)
theorem v_berr : (Res.err c τ : Res α).bind f = .err c τ := (rfl)
theorem v_sok : (Res.ok a τ).toS fs = fs a τ := (rfl)
theorem v_serr : (Res.err c τ : Res α).toS fs = .err c τ := (rfl)
theorem v_nx {g : DS → SRes} : (SRes.nx τ).then g = g τ := (rfl)
theorem v_rt {r : RV} {g : DS → SRes} : (SRes.rt r τ).then g = .rt r τ := (rfl)
theorem v_bk {g : DS → SRes} : (SRes.bk τ).then g = .bk τ := (rfl)
theorem v_ct {g : DS → SRes} : (SRes.ct τ).then g = .ct τ := (rfl)
theorem v_er {g : DS → SRes} : (SRes.err c τ).then g = .err c τ := (rfl)
theorem v_ofs : ofO (some a) τ = .ok a τ := (rfl)
/-! ### expressions -/
variable {ma mb mc me : DS → Res RV} {tc t u : DS → Res Bool} {op : D → D → Option RV} {o1 : D → Option RV} {x y z : RV} {d d1 d2 : D} {i j n : Nat} {cn : Cn} {ms ml : DS → Res (List RV)} {rs : List RV} {ds es : List D}
/-- the value of a slot -/
def vSlot (i : Nat) (τ : DS) : Option SV → Res RV
  | some (.dat d) => .ok (.dat d) τ
  | some (.own _) => .ok (.slot i) τ
  | _ => .stuck
theorem v_var : mVar i τ = vSlot i τ τ[i]? := by
  unfold mVar vSlot
  first | rfl | (split <;> rfl) | (split <;> simp_all)
theorem v_slot_dat : vSlot i τ (some (.dat d)) = .ok (.dat d) τ := (rfl)
theorem v_slot_own : vSlot i τ (some (.own cn)) = .ok (.slot i) τ := (rfl)
theorem v_c : mC d τ = .ok (.dat d) τ := (rfl)
def kBin (op : D → D → Option RV) (mb : DS → Res RV) (x : RV) (τ : DS) : Res RV := (mb τ).bind fun y τ2 => op2 op x y τ2
theorem v_bin : mBin op ma mb τ = (ma τ).bind (kBin op mb) := (rfl)
theorem v_kbin : kBin op mb x τ = (mb τ).bind (op2 op x) := (rfl)
def pk2 (op : D → D → Option RV) : Option D → Option D → Option RV
  | some a, some b => op a b
  | _, _ => none
theorem v_op2 : op2 op x y τ = ofO (pk2 op (peek x τ) (peek y τ)) τ := by
  unfold op2 pk2
  cases peek x τ <;> cases peek y τ <;> rfl
theorem v_pk2 : pk2 op (some d1) (some d2) = op d1 d2 := (rfl)
theorem v_un : mUn o1 ma τ = (ma τ).bind (op1 o1) := (rfl)
def pk1 (o1 : D → Option RV) : Option D → Option RV
  | some a => o1 a
  | none => none
theorem v_op1 : op1 o1 x τ = ofO (pk1 o1 (peek x τ)) τ := by
  unfold op1 pk1
  cases peek x τ <;> rfl
theorem v_pk1 : pk1 o1 (some d) = o1 d := (rfl)
theorem v_peek_dat : peek (.dat d) τ = some d := (rfl)
theorem v_peek_fr : peek (.fr cn) τ = some cn.d := (rfl)
def pSlot : Option SV → Option D
  | some (.own c) => some c.d
  | some (.dat d) => some d
  | _ => none
theorem v_peek_slot : peek (.slot i) τ = pSlot τ[i]? := by
  unfold peek pSlot
  first | rfl | (split <;> simp_all) | (split <;> rfl)
theorem v_pslot_own : pSlot (some (.own cn)) = some cn.d := (rfl)
theorem v_pslot_dat : pSlot (some (.dat d)) = some d := (rfl)
theorem v_cnl {l : List D} : (Cn.lst l).d = .lst l := (rfl)
def kTest (r : RV) (τ : DS) : Res Bool := ofO (asB r) τ
theorem v_test : mTest ma τ = (ma τ).bind kTest := (rfl)
theorem v_ktest {b : Bool} : kTest (.dat (.bl b)) τ = .ok b τ := (rfl)
def kAndT (u : DS → Res Bool) : Bool → DS → Res Bool
  | true, τ => u τ
  | false, τ => .ok false τ
theorem v_andT : mAndT t u τ = (t τ).bind (kAndT u) := by
  unfold mAndT
  cases t τ with
  | ok b τ1 => cases b <;> rfl
  | _ => rfl
theorem v_kand1 : kAndT u true τ = u τ := (rfl)
theorem v_kand0 : kAndT u false τ = .ok false τ := (rfl)
def kOrT (u : DS → Res Bool) : Bool → DS → Res Bool
  | true, τ => .ok true τ
  | false, τ => u τ
theorem v_orT : mOrT t u τ = (t τ).bind (kOrT u) := by
  unfold mOrT
  cases t τ with
  | ok b τ1 => cases b <;> rfl
  | _ => rfl
theorem v_kor1 : kOrT u true τ = .ok true τ := (rfl)
theorem v_kor0 : kOrT u false τ = u τ := (rfl)
def kNotT (b : Bool) (τ : DS) : Res Bool := .ok (!b) τ
theorem v_notT : mNotT t τ = (t τ).bind kNotT := (rfl)
theorem v_knotT {b : Bool} : kNotT b τ = .ok (!b) τ := (rfl)
def kAnd (mb : DS → Res RV) : Bool → DS → Res RV
  | true, τ => mb τ
  | false, τ => .ok (.dat (.bl false)) τ
theorem v_and : mAnd ma mb τ = (mTest ma τ).bind (kAnd mb) := by
  unfold mAnd
  cases mTest ma τ with
  | ok b τ1 => cases b <;> rfl
  | _ => rfl
theorem v_kAnd1 : kAnd mb true τ = mb τ := (rfl)
theorem v_kAnd0 : kAnd mb false τ = .ok (.dat (.bl false)) τ := (rfl)
def kOr (mb : DS → Res RV) : Bool → DS → Res RV
  | true, τ => .ok (.dat (.bl true)) τ
  | false, τ => mb τ
theorem v_or : mOr ma mb τ = (mTest ma τ).bind (kOr mb) := by
  unfold mOr
  cases mTest ma τ with
  | ok b τ1 => cases b <;> rfl
  | _ => rfl
theorem v_kOr1 : kOr mb true τ = .ok (.dat (.bl true)) τ := (rfl)
theorem v_kOr0 : kOr mb false τ = mb τ := (rfl)
def kNot (b : Bool) (τ : DS) : Res RV := .ok (.dat (.bl (!b))) τ
theorem v_not : mNot ma τ = (mTest ma τ).bind kNot := (rfl)
theorem v_knot {b : Bool} : kNot b τ = .ok (.dat (.bl (!b))) τ := (rfl)
def kIf (ma mb : DS → Res RV) : Bool → DS → Res RV
  | true, τ => ma τ
  | false, τ => mb τ
theorem v_if : mIf t ma mb τ = (t τ).bind (kIf ma mb) := by
  unfold mIf
  cases t τ with
  | ok b τ1 => cases b <;> rfl
  | _ => rfl
theorem v_kif1 : kIf ma mb true τ = ma τ := (rfl)
theorem v_kif0 : kIf ma mb false τ = mb τ := (rfl)
def isNoneD (d : D) : Option RV := match d with
  | .non => some (.dat (.bl true))
  | _ => some (.dat (.bl false))
theorem v_isNone : mIsNone ma τ = (ma τ).bind (op1 isNoneD) := (rfl)
def notNoneD (d : D) : Option RV := match d with
  | .non => some (.dat (.bl false))
  | _ => some (.dat (.bl true))
theorem v_notNone : mNotNone ma τ = (ma τ).bind (op1 notNoneD) := (rfl)
theorem v_nil : mNil τ = .ok [] τ := (rfl)
def kCons (mr : DS → Res (List RV)) (r : RV) (τ : DS) : Res (List RV) := (mr τ).bind fun rs τ2 => .ok (r :: rs) τ2
def kCons2 (r : RV) (rs : List RV) (τ : DS) : Res (List RV) := .ok (r :: rs) τ
theorem v_cons : mCons ma ms τ = (ma τ).bind (kCons ms) := (rfl)
theorem v_kcons : kCons ms x τ = (ms τ).bind (kCons2 x) := (rfl)
theorem v_kcons2 : kCons2 x rs τ = .ok (x :: rs) τ := (rfl)
def kFast {α : Type} (f : List D → DS → Res α) (rs : List RV) (τ : DS) : Res α := (forceAll rs τ).bind f
theorem v_fast {α : Type} {f : List D → DS → Res α} : mFast ms f τ = (ms τ).bind (kFast f) := (rfl)
theorem v_kfast {α : Type} {f : List D → DS → Res α} : kFast f rs τ = (forceAll rs τ).bind f := (rfl)
def kAll (rs : List RV) (d : D) (τ : DS) : Res (List D) := (forceAll rs τ).bind fun ds τ2 => .ok (d :: ds) τ2
def kAll2 (d : D) (ds : List D) (τ : DS) : Res (List D) := .ok (d :: ds) τ
theorem v_all0 : forceAll [] τ = .ok [] τ := (rfl)
theorem v_all1 : forceAll (x :: rs) τ = (force x τ).bind (kAll rs) := (rfl)
theorem v_kall : kAll rs d τ = (forceAll rs τ).bind (kAll2 d) := (rfl)
theorem v_kall2 : kAll2 d ds τ = .ok (d :: ds) τ := (rfl)
theorem v_force_dat : force (.dat d) τ = .ok d τ := (rfl)
theorem v_force_fr : force (.fr cn) τ = .ok cn.d τ := (rfl)
def fSlot (i : Nat) (τ : DS) : Option SV → Res D
  | some (.own c) => .ok c.d (τ.set i (.dat c.d))
  | some (.dat d) => .ok d τ
  | _ => .stuck
theorem v_force_slot : force (.slot i) τ = fSlot i τ τ[i]? := by
  unfold force fSlot
  first | rfl | (split <;> simp_all) | (split <;> rfl)
theorem v_fslot_own : fSlot i τ (some (.own cn)) = .ok cn.d (τ.set i (.dat cn.d)) := (rfl)
theorem v_fslot_dat : fSlot i τ (some (.dat d)) = .ok d τ := (rfl)
def kTup (ds : List D) (τ : DS) : Res RV := if ds.length ≤ bigN then .ok (.dat (.tup ds)) τ else .stuck
theorem v_tup : mTup ms τ = mFast ms kTup τ := (rfl)
theorem v_ktup (h : ds.length ≤ bigN) : kTup ds τ = .ok (.dat (.tup ds)) τ := if_pos h
def kLst (ds : List D) (τ : DS) : Res RV := if ds.length ≤ bigN then .ok (.fr (.lst ds)) τ else .stuck
theorem v_lst : mLst ms τ = mFast ms kLst τ := (rfl)
theorem v_klst (h : ds.length ≤ bigN) : kLst ds τ = .ok (.fr (.lst ds)) τ := if_pos h
theorem v_call {F : List D → FR} : mCall n F ms τ = mFast ms (callF n F) τ := (rfl)
theorem v_callF {F : List D → FR} (h : ds.length = n) : callF n F ds τ = (F ds).at τ := if_pos h
theorem v_at_ok : (FR.ok x).at τ = .ok x τ := (rfl)
theorem v_at_err : (FR.err c).at τ = .err c τ := (rfl)
def vOwn (ms : DS → Res (List RV)) (f : List D → DS → Res RV) (τ : DS) : Option SV → Res RV
  | some (.own _) => mFast ms f τ
  | _ => .stuck
theorem v_callB {F : Cn → List D → FB} : mCallB n F j ms τ = vOwn ms (callB n F j) τ τ[j]? := by
  unfold mCallB vOwn
  first | rfl | (split <;> rfl) | (split <;> simp_all)
theorem v_vown {f : List D → DS → Res RV} : vOwn ms f τ (some (.own cn)) = mFast ms f τ := (rfl)
def vB (F : Cn → List D → FB) (n j : Nat) (ds : List D) (τ : DS) : Option SV → Res RV
  | some (.own c) => if ds.length + 1 = n then (match F c ds with
    | .ok r c' => .ok r (τ.set j (.own c'))
    | .stuck => .stuck) else .stuck
  | _ => .stuck
theorem v_kcallB {F : Cn → List D → FB} : callB n F j ds τ = vB F n j ds τ τ[j]? := by
  unfold callB vB
  first | rfl | (split <;> simp_all) | (split <;> rfl)
def atB (j : Nat) (τ : DS) : FB → Res RV
  | .ok r c' => .ok r (τ.set j (.own c'))
  | .stuck => .stuck
theorem v_vB {F : Cn → List D → FB} (h : ds.length + 1 = n) : vB F n j ds τ (some (.own cn)) = atB j τ (F cn ds) := by
  unfold vB atB
  dsimp only
  rw [if_pos h]
  try (cases F cn ds <;> rfl)
theorem v_atB : atB j τ (.ok x cn) = .ok x (τ.set j (.own cn)) := (rfl)
def vM (i : Nat) (f : List D → List D → Option (D × List D)) (ms : DS → Res (List RV)) (τ : DS) : Option SV → Res RV
  | some (.own (.lst _)) => mFast ms (methAt i f) τ
  | _ => .stuck
theorem v_meth {f : List D → List D → Option (D × List D)} : mMeth i f ms τ = vM i f ms τ τ[i]? := by
  unfold mMeth vM
  first | rfl | (split <;> rfl) | (split <;> simp_all)
theorem v_vM {f : List D → List D → Option (D × List D)} : vM i f ms τ (some (.own (.lst ds))) = mFast ms (methAt i f) τ := (rfl)
def vM2 (i : Nat) (f : List D → List D → Option (D × List D)) (ds : List D) (τ : DS) : Option SV → Res RV
  | some (.own (.lst xs)) => (match f xs ds with
    | some (r, ys) => .ok (.dat r) (τ.set i (.own (.lst ys)))
    | none => .stuck)
  | _ => .stuck
theorem v_methAt {f : List D → List D → Option (D × List D)} : methAt i f ds τ = vM2 i f ds τ τ[i]? := by
  unfold methAt vM2
  first | rfl | (split <;> simp_all) | (split <;> rfl)
def vM3 (i : Nat) (τ : DS) : Option (D × List D) → Res RV
  | some (r, ys) => .ok (.dat r) (τ.set i (.own (.lst ys)))
  | none => .stuck
theorem v_vM2 {f : List D → List D → Option (D × List D)} : vM2 i f ds τ (some (.own (.lst es))) = vM3 i τ (f es ds) := by
  unfold vM2 vM3
  first | rfl | (dsimp only; split <;> simp_all)
theorem v_vM3 : vM3 i τ (some (d, ds)) = .ok (.dat d) (τ.set i (.own (.lst ds))) := (rfl)
theorem v_append (h : ds.length < bigN) : fAppend ds [d] = some (.non, ds ++ [d]) := if_pos h
theorem v_pop : fPop (ds ++ [d]) [] = some (d, ds) := by
  unfold fPop
  simp
def kCB (f : List D → Option RV) (rs : List RV) (τ : DS) : Res RV := ofO ((peeks rs τ).bind f) τ
theorem v_cb {f : List D → Option RV} : mCB f ms τ = (ms τ).bind (kCB f) := (rfl)
def pkL (f : List D → Option RV) : Option (List D) → Option RV
  | some ds => f ds
  | none => none
theorem v_kcb {f : List D → Option RV} : kCB f rs τ = ofO (pkL f (peeks rs τ)) τ := by
  unfold kCB pkL
  cases peeks rs τ <;> rfl
theorem v_pkL {f : List D → Option RV} : pkL f (some ds) = f ds := (rfl)
theorem v_peeks0 : peeks [] τ = some [] := (rfl)
def cons2 : Option D → Option (List D) → Option (List D)
  | some d, some ds => some (d :: ds)
  | _, _ => none
theorem v_peeks1 : peeks (x :: rs) τ = cons2 (peek x τ) (peeks rs τ) := by
  show ((peek x τ).bind fun d => (peeks rs τ).map (d :: ·)) = _
  unfold cons2
  cases peek x τ <;> cases peeks rs τ <;> rfl
theorem v_cons22 : cons2 (some d) (some ds) = some (d :: ds) := (rfl)
def isiD (T : String) (d : D) : Option RV := (isT T d).map fun b => .dat (.bl b)
theorem v_isi {T : String} : mIsi T ma τ = (ma τ).bind (op1 (isiD T)) := (rfl)
def kSl (m1 m2 : DS → Res (Option Int)) (r : RV) (τ : DS) : Res RV := (m1 τ).bind fun lo τ2 => (m2 τ2).bind fun hi τ3 => op1 (fun d => slD d lo hi) r τ3
def kSl2 (m2 : DS → Res (Option Int)) (r : RV) (lo : Option Int) (τ : DS) : Res RV := (m2 τ).bind fun hi τ3 => op1 (fun d => slD d lo hi) r τ3
def slE (lo hi : Option Int) (d : D) : Option RV := slD d lo hi
def kSl3 (r : RV) (lo hi : Option Int) (τ : DS) : Res RV := op1 (slE lo hi) r τ
variable {m1 m2 : DS → Res (Option Int)} {lo hi : Option Int}
theorem v_sl : mSl ma m1 m2 τ = (ma τ).bind (kSl m1 m2) := (rfl)
theorem v_ksl : kSl m1 m2 x τ = (m1 τ).bind (kSl2 m2 x) := (rfl)
theorem v_ksl2 : kSl2 m2 x lo τ = (m2 τ).bind (kSl3 x lo) := (rfl)
theorem v_ksl3 : kSl3 x lo hi τ = op1 (slE lo hi) x τ := (rfl)
theorem v_slE_l {l : List D} : slE lo hi (.lst l) = some (.fr (.lst (cutD l lo hi))) := (rfl)
theorem v_slE_t {l : List D} : slE lo hi (.tup l) = some (.dat (.tup (cutD l lo hi))) := (rfl)
theorem v_slE_r {l : List D} : slE lo hi (.rol l) = some (.fr (.lst (cutD l lo hi))) := (rfl)
def kSome (r : RV) (τ : DS) : Res (Option Int) := ofO ((asInt r).map some) τ
theorem v_some : mSome ma τ = (ma τ).bind kSome := (rfl)
theorem v_ksome {i : Int} : kSome (.dat (.int i)) τ = .ok (some i) τ := (rfl)
theorem v_none : mNone τ = .ok none τ := (rfl)
def rslD (d : D) : Option RV := match d with
  | .lst ds => some (.fr (.lst ds.reverse))
  | .rol ds => some (.fr (.lst ds.reverse))
  | _ => none
theorem v_revSl : mRevSl ma τ = (ma τ).bind (op1 rslD) := (rfl)
theorem v_iter : mIter ma τ = ((ma τ).bind force).bind itemsOf := (rfl)
theorem v_it_l {l : List D} : itemsOf (.lst l) τ = .ok l τ := (rfl)
theorem v_it_r {l : List D} : itemsOf (.rol l) τ = .ok l τ := (rfl)
theorem v_it_t {l : List D} : itemsOf (.tup l) τ = .ok l τ := (rfl)
theorem v_rng1 {k : Int} (h : -1000000000 ≤ k ∧ k < 1000000000) : rng1 [.int k] τ = .ok (iRow 0 k.toNat) τ := if_pos h
theorem v_rng2 {k l : Int} (h : -1000000000 ≤ k ∧ k < 1000000000 ∧ -1000000000 ≤ l ∧ l < 1000000000) : rng2 [.int k, .int l] τ = .ok (iRow k (l - k).toNat) τ := if_pos h
variable {mi : DS → Res (List D)} {vs : List Nat} {mt : D → DS → Option DS} {mq : DS → Res Bool}
def kLc (vs : List Nat) (mt : D → DS → Option DS) (mc : DS → Res Bool) (me : DS → Res RV) (xs : List D) (τ : DS) : Res RV := (compL vs mt mc me xs [] τ).bind fun ds τ2 => Res.ok (RV.fr (Cn.lst ds)) τ2
def kLc2 (ds : List D) (τ : DS) : Res RV := .ok (.fr (.lst ds)) τ
theorem v_lc : mLc mi vs mt mq me τ = (mi τ).bind (kLc vs mt mq me) := (rfl)
theorem v_klc {xs : List D} : kLc vs mt mq me xs τ = (compL vs mt mq me xs [] τ).bind kLc2 := (rfl)
theorem v_klc2 : kLc2 ds τ = .ok (.fr (.lst ds)) τ := (rfl)
theorem v_yes : mYes τ = .ok true τ := (rfl)
def vV (T : Tab) (ms : DS → Res (List RV)) (r : RV) (τ : DS) : Res RV := match r with
  | .dat (.sym n) => (match T n with
    | some (ar, F) => mCall ar F ms τ
    | none => .stuck)
  | _ => .stuck
def vV2 (ms : DS → Res (List RV)) (τ : DS) : Option (Nat × (List D → FR)) → Res RV
  | some (ar, F) => mCall ar F ms τ
  | none => .stuck
theorem v_callV {T : Tab} : mCallV T ma ms τ = (ma τ).bind (vV T ms) := (rfl)
theorem v_vV {T : Tab} : vV T ms (.dat (.sym n)) τ = vV2 ms τ (T n) := by
  unfold vV vV2
  first | rfl | (dsimp only; split <;> simp_all)
theorem v_vV2 {F : List D → FR} : vV2 ms τ (some (n, F)) = mCall n F ms τ := (rfl)
/-! ### statements -/
variable {sa sb : DS → SRes}
theorem v_seq : mSeq sa sb τ = (sa τ).then sb := (rfl)
theorem v_skip : mSkip τ = .nx τ := (rfl)
theorem v_break : mBreak τ = .bk τ := (rfl)
theorem v_cont : mCont τ = .ct τ := (rfl)
theorem v_raise : mRaise c τ = .err c τ := (rfl)
def kDrop (_ : RV) (τ : DS) : SRes := .nx τ
theorem v_drop : mDrop ma τ = (ma τ).toS kDrop := (rfl)
theorem v_kdrop : kDrop x τ = .nx τ := (rfl)
theorem v_ret : mRet ma τ = (ma τ).toS retR := (rfl)
theorem v_ret_dat : retR (.dat d) τ = .rt (.dat d) τ := (rfl)
theorem v_ret_fr : retR (.fr cn) τ = .rt (.fr cn) τ := (rfl)
def rSlot (i : Nat) (τ : DS) : Option SV → SRes
  | some (.own c) => .rt (.fr c) (τ.set i .emp)
  | some (.dat d) => .rt (.dat d) τ
  | _ => .stuck
theorem v_ret_slot : retR (.slot i) τ = rSlot i τ τ[i]? := by
  unfold retR rSlot
  first | rfl | (split <;> simp_all) | (split <;> rfl)
theorem v_rslot_own : rSlot i τ (some (.own cn)) = .rt (.fr cn) (τ.set i .emp) := (rfl)
theorem v_rslot_dat : rSlot i τ (some (.dat d)) = .rt (.dat d) τ := (rfl)
theorem v_retN : mRetN τ = .rt (.dat .non) τ := (rfl)
def kIfS (a b : DS → SRes) : Bool → DS → SRes
  | true, τ => a τ
  | false, τ => b τ
theorem v_ifS : mIfS t sa sb τ = (t τ).toS (kIfS sa sb) := by
  unfold mIfS
  cases t τ with
  | ok b τ1 => cases b <;> rfl
  | _ => rfl
theorem v_kifS1 : kIfS sa sb true τ = sa τ := (rfl)
theorem v_kifS0 : kIfS sa sb false τ = sb τ := (rfl)
theorem v_set : mSet i ma τ = (ma τ).toS (putR i) := (rfl)
theorem v_put_dat : putR i (.dat d) τ = .nx (τ.set i (.dat d)) := (rfl)
theorem v_put_fr : putR i (.fr cn) τ = .nx (τ.set i (.own cn)) := (rfl)
def kPut (i : Nat) (d : D) (τ : DS) : SRes := .nx (τ.set i (.dat d))
theorem v_put_slot : putR i (.slot j) τ = (force (.slot j) τ).toS (kPut i) := (rfl)
theorem v_kput : kPut i d τ = .nx (τ.set i (.dat d)) := (rfl)
def kAsg (mt : D → DS → Option DS) (d : D) (τ : DS) : SRes := match mt d τ with
  | some τ2 => .nx τ2
  | none => .stuck
def kAsg2 : Option DS → SRes
  | some τ2 => .nx τ2
  | none => .stuck
theorem v_asg : mAsg mt ma τ = ((ma τ).bind force).toS (kAsg mt) := (rfl)
theorem v_kasg : kAsg mt d τ = kAsg2 (mt d τ) := by
  unfold kAsg kAsg2
  first | rfl | (split <;> simp_all) | (split <;> rfl)
theorem v_kasg2 : kAsg2 (some τ) = .nx τ := (rfl)
variable {tg : D → DS → Option DS} {tgs : List D → DS → Option DS}
theorem v_tgN : tgN i d τ = some (τ.set i (.dat d)) := (rfl)
theorem v_tgNil : tgNil [] τ = some τ := (rfl)
def kTg (b : List D → DS → Option DS) (ds : List D) : Option DS → Option DS
  | some τ => b ds τ
  | none => none
theorem v_tgCons : tgCons tg tgs (d :: ds) τ = kTg tgs ds (tg d τ) := by
  unfold tgCons kTg
  dsimp only
  cases tg d τ <;> rfl
theorem v_ktg : kTg tgs ds (some τ) = tgs ds τ := (rfl)
theorem v_tgT (h : ds.length = n) : tgT n tgs (.tup ds) τ = tgs ds τ := if_pos h
def kPar (i j : Nat) (rs : List RV) (τ : DS) : SRes := match rs with
  | [r1, r2] => ((fixV r1 τ).bind fun s1 τ2 => (fixV r2 τ2).bind fun s2 τ3 => .ok (s1, s2) τ3).toS fun p τ4 => .nx ((τ4.set i p.1).set j p.2)
  | _ => .stuck
def kPar1 (r2 : RV) (s1 : SV) (τ : DS) : Res (SV × SV) := (fixV r2 τ).bind fun s2 τ3 => .ok (s1, s2) τ3
def kPar2 (s1 s2 : SV) (τ : DS) : Res (SV × SV) := .ok (s1, s2) τ
def kPar3 (i j : Nat) (p : SV × SV) (τ : DS) : SRes := .nx ((τ.set i p.1).set j p.2)
variable {s1 s2 : SV}
theorem v_par : mPar i j ms τ = (ms τ).toS (kPar i j) := by
  unfold mPar
  cases ms τ with
  | ok rs τ1 =>
    show (match rs with
      | [r1, r2] => _
      | _ => _) = kPar i j rs τ1
    unfold kPar
    first | rfl | (split <;> rfl) | (split <;> simp_all)
  | _ => rfl
theorem v_kpar : kPar i j [x, y] τ = ((fixV x τ).bind (kPar1 y)).toS (kPar3 i j) := (rfl)
theorem v_kpar1 : kPar1 y s1 τ = (fixV y τ).bind (kPar2 s1) := (rfl)
theorem v_kpar2 : kPar2 s1 s2 τ = .ok (s1, s2) τ := (rfl)
theorem v_kpar3 : kPar3 i j (s1, s2) τ = .nx ((τ.set i s1).set j s2) := (rfl)
theorem v_fix_dat : fixV (.dat d) τ = .ok (.dat d) τ := (rfl)
theorem v_fix_fr : fixV (.fr cn) τ = .ok (.own cn) τ := (rfl)
def kFix (d : D) (τ : DS) : Res SV := .ok (.dat d) τ
theorem v_fix_slot : fixV (.slot i) τ = (force (.slot i) τ).bind kFix := (rfl)
theorem v_kfix : kFix d τ = .ok (.dat d) τ := (rfl)
def aSlot (i : Nat) (f : Int → Int → Option Int) (me : DS → Res RV) (τ : DS) : Option SV → SRes
  | some (.dat (.int a)) => (me τ).toS fun r τ1 => match asInt r with
    | some b => (match f a b with
      | some c => .nx (τ1.set i (.dat (.int c)))
      | none => .stuck)
    | none => .stuck
  | _ => .stuck
def kAug (i : Nat) (f : Int → Int → Option Int) (a : Int) (r : RV) (τ : DS) : SRes := match asInt r with
  | some b => (match f a b with
    | some c => .nx (τ.set i (.dat (.int c)))
    | none => .stuck)
  | none => .stuck
def kAug2 (i : Nat) (τ : DS) : Option Int → SRes
  | some c => .nx (τ.set i (.dat (.int c)))
  | none => .stuck
variable {fi : Int → Int → Option Int} {k l : Int}
theorem v_aug : mAug i fi ma τ = aSlot i fi ma τ τ[i]? := by
  unfold mAug aSlot
  first | rfl | (split <;> rfl) | (split <;> simp_all)
theorem v_aslot : aSlot i fi ma τ (some (.dat (.int k))) = (ma τ).toS (kAug i fi k) := (rfl)
theorem v_kaug : kAug i fi k (.dat (.int l)) τ = kAug2 i τ (fi k l) := by
  unfold kAug kAug2
  first | rfl | (dsimp only [asInt]; split <;> simp_all)
theorem v_kaug2 : kAug2 i τ (some k) = .nx (τ.set i (.dat (.int k))) := (rfl)
theorem v_for : mFor mi mt sa τ = (mi τ).toS (forL mt sa) := (rfl)
theorem v_for0 : forL mt sa [] τ = .nx τ := (rfl)
def kFor (mt : D → DS → Option DS) (mb : DS → SRes) (xs : List D) : Option DS → SRes
  | none => .stuck
  | some τ1 => match mb τ1 with
    | .nx τ2 => forL mt mb xs τ2
    | .ct τ2 => forL mt mb xs τ2
    | .bk τ2 => .nx τ2
    | r => r
def kFor2 (mt : D → DS → Option DS) (mb : DS → SRes) (xs : List D) : SRes → SRes
  | .nx τ2 => forL mt mb xs τ2
  | .ct τ2 => forL mt mb xs τ2
  | .bk τ2 => .nx τ2
  | r => r
theorem v_for1 {xs : List D} : forL mt sa (d :: xs) τ = kFor mt sa xs (mt d τ) := by
  conv => lhs; unfold forL
  unfold kFor
  first | rfl | (split <;> simp_all) | (split <;> rfl)
theorem v_kfor {xs : List D} : kFor mt sa xs (some τ) = kFor2 mt sa xs (sa τ) := by
  unfold kFor kFor2
  first | rfl | (dsimp only; split <;> simp_all)
theorem v_kfor_nx {xs : List D} : kFor2 mt sa xs (.nx τ) = forL mt sa xs τ := (rfl)
theorem v_kfor_ct {xs : List D} : kFor2 mt sa xs (.ct τ) = forL mt sa xs τ := (rfl)
theorem v_kfor_bk {xs : List D} : kFor2 mt sa xs (.bk τ) = .nx τ := (rfl)
theorem v_kfor_rt {xs : List D} : kFor2 mt sa xs (.rt x τ) = .rt x τ := (rfl)
theorem v_kfor_er {xs : List D} : kFor2 mt sa xs (.err c τ) = .err c τ := (rfl)
noncomputable def kWh (c : DS → Res Bool) (b : DS → SRes) : Res Bool → SRes
  | .ok true τ1 => match b τ1 with
    | .nx τ2 => mWhile c b τ2
    | .ct τ2 => mWhile c b τ2
    | .bk τ2 => .nx τ2
    | r => r
  | .ok false τ1 => .nx τ1
  | .err c τ1 => .err c τ1
  | .stuck => .stuck
noncomputable def kWh2 (c : DS → Res Bool) (b : DS → SRes) : SRes → SRes
  | .nx τ2 => mWhile c b τ2
  | .ct τ2 => mWhile c b τ2
  | .bk τ2 => .nx τ2
  | r => r
theorem v_while : mWhile t sa τ = kWh t sa (t τ) := by
  rw [mWhile_eq]
  unfold kWh
  first | rfl | (split <;> simp_all) | (split <;> rfl)
theorem v_kwh0 : kWh t sa (.ok false τ) = .nx τ := (rfl)
theorem v_kwh1 : kWh t sa (.ok true τ) = kWh2 t sa (sa τ) := by
  unfold kWh kWh2
  first | rfl | (dsimp only; split <;> simp_all)
theorem v_kwh_nx : kWh2 t sa (.nx τ) = mWhile t sa τ := (rfl)
theorem v_kwh_ct : kWh2 t sa (.ct τ) = mWhile t sa τ := (rfl)
theorem v_kwh_bk : kWh2 t sa (.bk τ) = .nx τ := (rfl)
theorem v_kwh_rt : kWh2 t sa (.rt x τ) = .rt x τ := (rfl)
theorem v_kwh_er : kWh2 t sa (.err c τ) = .err c τ := (rfl)
def kTry (i : Nat) (cs : Nat → Option Bool) (ms : Nat → DS → Res RV) : SRes → SRes
  | .err c τ1 => (match cs c with
    | some true => if i < τ1.length then (match ms c (τ1.set i .emp) with
      | .ok r τ2 => retR r τ2
      | _ => .stuck) else .stuck
    | some false => .err c τ1
    | none => .stuck)
  | r => r
def kTry2 (i c : Nat) (ms : Nat → DS → Res RV) (τ1 : DS) : Option Bool → SRes
  | some true => if i < τ1.length then (match ms c (τ1.set i .emp) with
      | .ok r τ2 => retR r τ2
      | _ => .stuck) else .stuck
  | some false => .err c τ1
  | none => .stuck
def kTry3 : Res RV → SRes
  | .ok r τ2 => retR r τ2
  | _ => .stuck
variable {cs : Nat → Option Bool} {mh : Nat → DS → Res RV}
theorem v_try : mTry i cs sa mh τ = kTry i cs mh (sa τ) := by
  unfold mTry kTry
  first | rfl | (split <;> simp_all) | (split <;> rfl)
theorem v_ktry_nx : kTry i cs mh (.nx τ) = .nx τ := (rfl)
theorem v_ktry_rt : kTry i cs mh (.rt x τ) = .rt x τ := (rfl)
theorem v_ktry_er : kTry i cs mh (.err c τ) = kTry2 i c mh τ (cs c) := by
  unfold kTry kTry2
  first | rfl | (dsimp only; split <;> simp_all)
theorem v_ktry2 (h : i < τ.length) : kTry2 i c mh τ (some true) = kTry3 (mh c (τ.set i .emp)) := by
  unfold kTry2 kTry3
  dsimp only
  rw [if_pos h]
  try first | rfl | (split <;> simp_all) | (split <;> rfl)
theorem v_ktry3 : kTry3 (.ok x τ) = retR x τ := (rfl)
/-! ### defs -/
def endF : SRes → FR
  | .rt r _ => .ok r
  | .nx _ => .ok (.dat .non)
  | .err c _ => .err c
  | _ => .stuck
theorem v_runF : runF n sa ds = endF (sa (ds.map SV.dat ++ List.replicate (n - ds.length) .emp)) := by
  unfold runF endF
  first | rfl | (split <;> simp_all) | (split <;> rfl)
theorem v_endF_rt : endF (.rt x τ) = .ok x := (rfl)
theorem v_endF_nx : endF (.nx τ) = .ok (.dat .non) := (rfl)
theorem v_endF_er : endF (.err c τ) = .err c := (rfl)
def endB : SRes → FB
  | .rt r τ => outB r τ
  | .nx τ => outB (.dat .non) τ
  | _ => .stuck
theorem v_runB : runB n sa cn ds = endB (sa (.own cn :: (ds.map SV.dat ++ List.replicate (n - 1 - ds.length) .emp))) := by
  unfold runB endB
  first | rfl | (split <;> simp_all) | (split <;> rfl)
theorem v_endB_rt : endB (.rt x (.own cn :: τ)) = .ok x cn := (rfl)
theorem v_endB_nx : endB (.nx (.own cn :: τ)) = .ok (.dat .non) cn := (rfl)
/-! ### operators on ints -/
theorem v_add : addD (.int k) (.int l) = some (.dat (.int (k + l))) := (rfl)
theorem v_sub : subD (.int k) (.int l) = some (.dat (.int (k - l))) := (rfl)
theorem v_mul (h : L2.CMul k l) : mulD (.int k) (.int l) = some (.dat (.int (k * l))) := if_pos h
theorem v_mod (h : l ≠ 0) : modD (.int k) (.int l) = some (.dat (.int (k.fmod l))) := if_pos h
theorem v_fdiv (h1 : 0 < l) (h2 : l < 2 ^ 250) : fdivD (.int k) (.int l) = some (.dat (.int (k.fdiv l))) := by
  unfold fdivD
  dsimp only
  split
  · rfl
  · rw [if_pos ⟨h1, h2⟩]
theorem v_neg : negD (.int k) = some (.dat (.int (-k))) := (rfl)
theorem v_lt : ltD (.int k) (.int l) = some (.dat (.bl (decide (k < l)))) := (rfl)
theorem v_cmp {p : Int → Int → Bool} : cmpI p (.int k) (.int l) = some (.dat (.bl (p k l))) := (rfl)
theorem eqB_ii : eqB (.int k) (.int l) = some (k == l) := by
  show (if SeqAt.shaped (.int k) = true ∧ SeqAt.shaped (.int l) = true then some (PyData.eqv (.int k) (.int l)) else none) = _
  rw [if_pos ⟨rfl, rfl⟩]
  rfl
theorem v_eq : eqD (.int k) (.int l) = some (.dat (.bl (k == l))) := by
  unfold eqD; rw [eqB_ii]; rfl
theorem v_ne : neD (.int k) (.int l) = some (.dat (.bl (!(k == l)))) := by
  unfold neD; rw [eqB_ii]; rfl
theorem v_absD : absD [.int k] = some (.dat (.int (if k < 0 then -k else k))) := (rfl)
theorem v_int1 : int1D [.int k] = some (.dat (.int k)) := (rfl)
theorem v_len_l : lenD [.lst ds] = some (.dat (.int ds.length)) := (rfl)
theorem v_len_t : lenD [.tup ds] = some (.dat (.int ds.length)) := (rfl)
theorem v_len_r : lenD [.rol ds] = some (.dat (.int ds.length)) := (rfl)
theorem v_list_l : listD [.lst ds] = some (.fr (.lst ds)) := (rfl)
theorem v_list_t : listD [.tup ds] = some (.fr (.lst ds)) := (rfl)
theorem v_rev_l : revD (.lst ds) = some (.fr (.lst ds.reverse)) := (rfl)
theorem v_rev_r : revD (.rol ds) = some (.fr (.lst ds.reverse)) := (rfl)
theorem atI_at {l : List D} {k : Nat} (h : l[k]? = some d) : L2.atI l (k : Int) = some d := by
  rw [L2.atI_nat h]
theorem v_ixt {l : List D} : ixD (.tup l) (.int k) = (L2.atI l k).map .dat := (rfl)
theorem v_ixl {l : List D} : ixD (.lst l) (.int k) = (L2.atI l k).map .dat := (rfl)
theorem v_ixr {l : List D} : ixD (.rol l) (.int k) = (L2.atI l k).map .dat := (rfl)
end

/-! ### loops -/
/-- a for loop that goes through to its end, or leaves early with what is wished -/
theorem for_rule {mt : D → DS → Option DS} {mb : DS → SRes} {R : SRes → Prop} (Inv : Nat → DS → Prop) {xs : List D} {τ : DS} (h0 : Inv 0 τ)
    (step : ∀ i x τ, xs[i]? = some x → Inv i τ → ∃ τ1, mt x τ = some τ1 ∧ ((∃ τ2, (mb τ1 = .nx τ2 ∨ mb τ1 = .ct τ2) ∧ Inv (i + 1) τ2) ∨ (∃ τ2, mb τ1 = .bk τ2 ∧ R (.nx τ2)) ∨ (∃ r τ2, mb τ1 = .rt r τ2 ∧ R (.rt r τ2))))
    (fin : ∀ τ, Inv xs.length τ → R (.nx τ)) : R (forL mt mb xs τ) := by
  have key : ∀ (k : Nat) (τ : DS), k ≤ xs.length → Inv (xs.length - k) τ → R (forL mt mb (xs.drop (xs.length - k)) τ) := by
    intro k
    induction k with
    | zero =>
      intro τ _ hI
      rw [Nat.sub_zero, List.drop_length]
      exact fin τ hI
    | succ k ih =>
      intro τ hk hI
      have hlt : xs.length - (k + 1) < xs.length := by omega
      have e : xs.length - (k + 1) + 1 = xs.length - k := by omega
      rw [List.drop_eq_getElem_cons hlt, v_for1]
      obtain ⟨τ1, h1, h2⟩ := step _ _ τ (List.getElem?_eq_getElem hlt) hI
      rw [h1, v_kfor]
      rcases h2 with ⟨τ2, h3, h4⟩ | ⟨τ2, h3, h4⟩ | ⟨r, τ2, h3, h4⟩
      · rw [e] at h4
        rw [e]
        rcases h3 with h3 | h3
        · rw [h3, v_kfor_nx]; exact ih τ2 (by omega) h4
        · rw [h3, v_kfor_ct]; exact ih τ2 (by omega) h4
      · rw [h3, v_kfor_bk]; exact h4
      · rw [h3, v_kfor_rt]; exact h4
  have := key xs.length τ (Nat.le_refl _) (by rw [Nat.sub_self]; exact h0)
  rwa [Nat.sub_self, List.drop_zero] at this
/-- one that always goes through -/
theorem for_all {mt : D → DS → Option DS} {mb : DS → SRes} (Inv : Nat → DS → Prop) {xs : List D} {τ : DS} (h0 : Inv 0 τ)
    (step : ∀ i x τ, xs[i]? = some x → Inv i τ → ∃ τ1 τ2, mt x τ = some τ1 ∧ mb τ1 = .nx τ2 ∧ Inv (i + 1) τ2) : ∃ τ', forL mt mb xs τ = .nx τ' ∧ Inv xs.length τ' :=
  for_rule (R := fun r => ∃ τ', r = .nx τ' ∧ Inv xs.length τ') Inv h0 (fun i x τ hx hI => by
    obtain ⟨τ1, τ2, h1, h2, h3⟩ := step i x τ hx hI
    exact ⟨τ1, h1, .inl ⟨τ2, .inl h2, h3⟩⟩) fun τ h => ⟨τ, rfl, h⟩
/-- a while loop that goes through to its end: by a measure -/
theorem while_rule {c : DS → Res Bool} {b : DS → SRes} {R : SRes → Prop} (Inv : Nat → DS → Prop) (step : ∀ k τ, Inv k τ → (∃ τ1, c τ = .ok false τ1 ∧ R (.nx τ1)) ∨ (∃ τ1, c τ = .ok true τ1 ∧ ((∃ j τ2, (b τ1 = .nx τ2 ∨ b τ1 = .ct τ2) ∧ j < k ∧ Inv j τ2) ∨ (∃ τ2, b τ1 = .bk τ2 ∧ R (.nx τ2)) ∨ (∃ r τ2, b τ1 = .rt r τ2 ∧ R (.rt r τ2))))) {k : Nat} {τ : DS} (h0 : Inv k τ) : R (mWhile c b τ) := by
  induction k using Nat.strongRecOn generalizing τ with
  | ind k ih =>
    rw [v_while]
    rcases step k τ h0 with ⟨τ1, h1, h2⟩ | ⟨τ1, h1, h2⟩
    · rw [h1, v_kwh0]; exact h2
    · rw [h1, v_kwh1]
      rcases h2 with ⟨j, τ2, h3, hj, h4⟩ | ⟨τ2, h3, h4⟩ | ⟨r, τ2, h3, h4⟩
      · rcases h3 with h3 | h3
        · rw [h3, v_kwh_nx]; exact ih j hj h4
        · rw [h3, v_kwh_ct]; exact ih j hj h4
      · rw [h3, v_kwh_bk]; exact h4
      · rw [h3, v_kwh_rt]; exact h4
/-- a comprehension without a test whose block leaves the outer slots alone: f tells each item's value -/
theorem comp_map {vs : List Nat} {mt : D → DS → Option DS} {mc : DS → Res Bool} {me : DS → Res RV} {τ : DS} (p : D → Bool) (f : D → D) {xs : List D}
    (step : ∀ x ∈ xs, ∃ τ1 τ2, mt x (wipeT τ vs) = some τ1 ∧ mc τ1 = .ok (p x) τ2 ∧ (p x = false → unwipe τ τ2 vs = τ) ∧ (p x = true → ∃ r τ3 τ4, me τ2 = .ok r τ3 ∧ force r τ3 = .ok (f x) τ4 ∧ unwipe τ τ4 vs = τ)) (acc : List D) (hl : acc.length + xs.length ≤ bigN) :
    compL vs mt mc me xs acc τ = .ok (acc ++ (xs.filter p).map f) τ := by
  induction xs generalizing acc with
  | nil => simp [compL]
  | cons x xs ih =>
    obtain ⟨τ1, τ2, h1, h2, h3, h4⟩ := step x List.mem_cons_self
    rw [List.length_cons] at hl
    unfold compL
    rw [h1]
    dsimp only
    rw [h2]
    cases hp : p x with
    | false =>
      dsimp only
      rw [h3 hp, ih (fun y hy => step y (List.mem_cons_of_mem _ hy)) acc (by omega), List.filter_cons_of_neg (by simp [hp])]
    | true =>
      obtain ⟨r, τ3, τ4, h5, h6, h7⟩ := h4 hp
      dsimp only
      rw [h5, v_bok, h6]
      dsimp only
      rw [if_pos (by omega), h7, ih (fun y hy => step y (List.mem_cons_of_mem _ hy)) (acc ++ [f x]) (by simp; omega), List.filter_cons_of_pos hp]
      simp
end DL

set_option maxHeartbeats 1000000
/-! DL13: equality of data, isinstance of data. -/
namespace DL
open PySem L2
theorem v_kb_NoneType_bool : kitB "NoneType" "bool" = some false := by decide +kernel
theorem v_kb_NoneType_int : kitB "NoneType" "int" = some false := by decide +kernel
theorem v_kb_NoneType_str : kitB "NoneType" "str" = some false := by decide +kernel
theorem v_kb_NoneType_tuple : kitB "NoneType" "tuple" = some false := by decide +kernel
theorem v_kb_NoneType_list : kitB "NoneType" "list" = some false := by decide +kernel
theorem v_kb_NoneType_dict : kitB "NoneType" "dict" = some false := by decide +kernel
theorem v_kb_bool_bool : kitB "bool" "bool" = some true := by decide +kernel
theorem v_kb_bool_int : kitB "bool" "int" = some true := by decide +kernel
theorem v_kb_bool_str : kitB "bool" "str" = some false := by decide +kernel
theorem v_kb_bool_tuple : kitB "bool" "tuple" = some false := by decide +kernel
theorem v_kb_bool_list : kitB "bool" "list" = some false := by decide +kernel
theorem v_kb_bool_dict : kitB "bool" "dict" = some false := by decide +kernel
theorem v_kb_int_bool : kitB "int" "bool" = some false := by decide +kernel
theorem v_kb_int_int : kitB "int" "int" = some true := by decide +kernel
theorem v_kb_int_str : kitB "int" "str" = some false := by decide +kernel
theorem v_kb_int_tuple : kitB "int" "tuple" = some false := by decide +kernel
theorem v_kb_int_list : kitB "int" "list" = some false := by decide +kernel
theorem v_kb_int_dict : kitB "int" "dict" = some false := by decide +kernel
theorem v_kb_str_bool : kitB "str" "bool" = some false := by decide +kernel
theorem v_kb_str_int : kitB "str" "int" = some false := by decide +kernel
theorem v_kb_str_str : kitB "str" "str" = some true := by decide +kernel
theorem v_kb_str_tuple : kitB "str" "tuple" = some false := by decide +kernel
theorem v_kb_str_list : kitB "str" "list" = some false := by decide +kernel
theorem v_kb_str_dict : kitB "str" "dict" = some false := by decide +kernel
theorem v_kb_tuple_bool : kitB "tuple" "bool" = some false := by decide +kernel
theorem v_kb_tuple_int : kitB "tuple" "int" = some false := by decide +kernel
theorem v_kb_tuple_str : kitB "tuple" "str" = some false := by decide +kernel
theorem v_kb_tuple_tuple : kitB "tuple" "tuple" = some true := by decide +kernel
theorem v_kb_tuple_list : kitB "tuple" "list" = some false := by decide +kernel
theorem v_kb_tuple_dict : kitB "tuple" "dict" = some false := by decide +kernel
theorem v_kb_list_bool : kitB "list" "bool" = some false := by decide +kernel
theorem v_kb_list_int : kitB "list" "int" = some false := by decide +kernel
theorem v_kb_list_str : kitB "list" "str" = some false := by decide +kernel
theorem v_kb_list_tuple : kitB "list" "tuple" = some false := by decide +kernel
theorem v_kb_list_list : kitB "list" "list" = some true := by decide +kernel
theorem v_kb_list_dict : kitB "list" "dict" = some false := by decide +kernel
theorem v_kb_dict_bool : kitB "dict" "bool" = some false := by decide +kernel
theorem v_kb_dict_int : kitB "dict" "int" = some false := by decide +kernel
theorem v_kb_dict_str : kitB "dict" "str" = some false := by decide +kernel
theorem v_kb_dict_tuple : kitB "dict" "tuple" = some false := by decide +kernel
theorem v_kb_dict_list : kitB "dict" "list" = some false := by decide +kernel
theorem v_kb_dict_dict : kitB "dict" "dict" = some true := by decide +kernel
section
variable {T : String} {i : Int} {b : Bool} {x : Str} {ds : List D} {kvs : List (D × D)} {o : Bool}
theorem v_isi_non : isiD T .non = (kitB "NoneType" T).map fun b => .dat (.bl b) := (rfl)
theorem v_isi_bl : isiD T (.bl b) = (kitB "bool" T).map fun b => .dat (.bl b) := (rfl)
theorem v_isi_int : isiD T (.int i) = (kitB "int" T).map fun b => .dat (.bl b) := (rfl)
theorem v_isi_str : isiD T (.str x) = (kitB "str" T).map fun b => .dat (.bl b) := (rfl)
theorem v_isi_tup : isiD T (.tup ds) = (kitB "tuple" T).map fun b => .dat (.bl b) := (rfl)
theorem v_isi_lst : isiD T (.lst ds) = (kitB "list" T).map fun b => .dat (.bl b) := (rfl)
theorem v_isi_dct : isiD T (.dct kvs) = (kitB "dict" T).map fun b => .dat (.bl b) := (rfl)
theorem eqB_bb {a b : Bool} : eqB (.bl a) (.bl b) = some (a == b) := by
  show (if SeqAt.shaped (.bool a) = true ∧ SeqAt.shaped (.bool b) = true then some (PyData.eqv (.bool a) (.bool b)) else none) = _
  rw [if_pos ⟨rfl, rfl⟩]
  rfl
theorem v_eq_bb {a b : Bool} : eqD (.bl a) (.bl b) = some (.dat (.bl (a == b))) := by
  unfold eqD; rw [eqB_bb]; rfl
theorem v_ne_bb {a b : Bool} : neD (.bl a) (.bl b) = some (.dat (.bl (!(a == b)))) := by
  unfold neD; rw [eqB_bb]; rfl
theorem v_isNone_non : isNoneD .non = some (.dat (.bl true)) := (rfl)
theorem v_isNone_bl : isNoneD (.bl b) = some (.dat (.bl false)) := (rfl)
theorem v_isNone_int : isNoneD (.int i) = some (.dat (.bl false)) := (rfl)
theorem v_isNone_str : isNoneD (.str x) = some (.dat (.bl false)) := (rfl)
theorem v_isNone_tup : isNoneD (.tup ds) = some (.dat (.bl false)) := (rfl)
theorem v_isNone_lst : isNoneD (.lst ds) = some (.dat (.bl false)) := (rfl)
end
/-- data without a class's instances, of a depth of at most k -/
def Good : Nat → D → Prop
  | 0, _ => False
  | k + 1, d => match d with
    | .non => True
    | .bl _ => True
    | .int _ => True
    | .str x => PyData.strOk x = true
    | .tup ds => ds.length ≤ 100000 ∧ ∀ x ∈ ds, Good k x
    | .lst ds => ds.length ≤ 100000 ∧ ∀ x ∈ ds, Good k x
    | _ => False
theorem Good.py : ∀ {k : Nat} {d : D}, Good k d → ∃ p, pyD d = some p ∧ p.canLay0 = true ∧ p.depth ≤ k ∧ PyData.eqv p p = true := by
  intro k
  induction k with
  | zero => intro d h; exact h.elim
  | succ k ih =>
    have all : ∀ ds : List D, (∀ x ∈ ds, Good k x) → ∃ ps, pyDs ds = some ps ∧ PyData.canLayAll0 ps = true ∧ PyData.depthAll ps ≤ k ∧ PyData.eqvAll ps ps = true := by
      intro ds
      induction ds with
      | nil => intro _; exact ⟨[], rfl, rfl, Nat.zero_le _, rfl⟩
      | cons d ds ihd =>
        intro h
        obtain ⟨p, e1, e2, e3, e4⟩ := ih (h d List.mem_cons_self)
        obtain ⟨ps, q1, q2, q3, q4⟩ := ihd fun x hx => h x (List.mem_cons_of_mem _ hx)
        refine ⟨p :: ps, ?_, ?_, ?_, ?_⟩
        · unfold pyDs; rw [e1, q1]; rfl
        · simp [PyData.canLayAll0, e2, q2]
        · simp only [PyData.depthAll]; omega
        · simp [PyData.eqvAll, e4, q4]
    intro d h
    cases d with
    | non => exact ⟨.none, rfl, rfl, Nat.zero_le _, rfl⟩
    | bl b => exact ⟨.bool b, rfl, rfl, Nat.zero_le _, by simp [PyData.eqv]⟩
    | int i => exact ⟨.int i, rfl, rfl, Nat.zero_le _, by simp [PyData.eqv]⟩
    | str x => exact ⟨.str x, rfl, h, Nat.zero_le _, by simp [PyData.eqv]⟩
    | tup ds =>
      obtain ⟨ps, q1, q2, q3, q4⟩ := all ds h.2
      refine ⟨.tuple ps, ?_, ?_, ?_, ?_⟩
      · unfold pyD; rw [q1]; rfl
      · simpa [PyData.canLay0] using q2
      · simp only [PyData.depth]; omega
      · simpa [PyData.eqv] using q4
    | lst ds =>
      obtain ⟨ps, q1, q2, q3, q4⟩ := all ds h.2
      refine ⟨.list ps, ?_, ?_, ?_, ?_⟩
      · unfold pyD; rw [q1]; rfl
      · simpa [PyData.canLay0] using q2
      · simp only [PyData.depth]; omega
      · simpa [PyData.eqv] using q4
    | _ => exact h.elim
theorem Good.shaped {k : Nat} {d : D} (h : Good k d) (hk : k ≤ 64) : ∃ p, pyD d = some p ∧ SeqAt.shaped p = true ∧ PyData.eqv p p = true := by
  obtain ⟨p, e1, e2, e3, e4⟩ := h.py
  refine ⟨p, e1, ?_, e4⟩
  unfold SeqAt.shaped
  rw [e2, decide_eq_true (Nat.le_trans e3 hk)]
  rfl
theorem eqB_refl {k : Nat} {d : D} (h : Good k d) (hk : k ≤ 64) : eqB d d = some true := by
  obtain ⟨p, e1, e2, e3⟩ := h.shaped hk
  unfold eqB
  rw [e1]
  show (if SeqAt.shaped p = true ∧ SeqAt.shaped p = true then some (PyData.eqv p p) else none) = _
  rw [if_pos ⟨e2, e2⟩, e3]
theorem eqD_refl {k : Nat} {d : D} (h : Good k d) (hk : k ≤ 64) : eqD d d = some (.dat (.bl true)) := by
  unfold eqD; rw [eqB_refl h hk]; rfl
theorem neD_refl {k : Nat} {d : D} (h : Good k d) (hk : k ≤ 64) : neD d d = some (.dat (.bl false)) := by
  unfold neD; rw [eqB_refl h hk]; rfl
theorem eqB_nil {k : Nat} {ds : List D} (h : Good k (.lst ds)) (hk : k ≤ 64) : eqB (.lst ds) (.lst []) = some ds.isEmpty := by
  obtain ⟨p, e1, e2, e3⟩ := h.shaped hk
  unfold eqB
  rw [e1]
  show (if SeqAt.shaped p = true ∧ SeqAt.shaped (.list []) = true then some (PyData.eqv p (.list [])) else none) = _
  rw [if_pos ⟨e2, rfl⟩]
  unfold pyD at e1
  cases q : pyDs ds with
  | none => rw [q] at e1; cases e1
  | some ps =>
    rw [q] at e1
    cases e1
    cases ds with
    | nil => cases q; rfl
    | cons d ds =>
      unfold pyDs at q
      cases q1 : pyD d with
      | none => rw [q1] at q; cases q
      | some p1 =>
        rw [q1] at q
        cases q2 : pyDs ds with
        | none => rw [q2] at q; cases q
        | some p2 => rw [q2] at q; cases q; rfl
theorem neD_nil {k : Nat} {ds : List D} (h : Good k (.lst ds)) (hk : k ≤ 64) : neD (.lst ds) (.lst []) = some (.dat (.bl (!ds.isEmpty))) := by
  unfold neD; rw [eqB_nil h hk]; rfl
theorem eqD_nil {k : Nat} {ds : List D} (h : Good k (.lst ds)) (hk : k ≤ 64) : eqD (.lst ds) (.lst []) = some (.dat (.bl ds.isEmpty)) := by
  unfold eqD; rw [eqB_nil h hk]; rfl
/-- a comprehension without a test whose block leaves the outer slots alone -/
theorem comp_all {vs : List Nat} {mt : D → DS → Option DS} {mc : DS → Res Bool} {me : DS → Res RV} {τ : DS} (f : D → D) {xs : List D}
    (step : ∀ x ∈ xs, ∃ τ1 τ2 r τ3 τ4, mt x (wipeT τ vs) = some τ1 ∧ mc τ1 = .ok true τ2 ∧ me τ2 = .ok r τ3 ∧ force r τ3 = .ok (f x) τ4 ∧ unwipe τ τ4 vs = τ) (hl : xs.length ≤ bigN) :
    compL vs mt mc me xs [] τ = .ok (xs.map f) τ := by
  have := comp_map (vs := vs) (mt := mt) (mc := mc) (me := me) (τ := τ) (fun _ => true) f (xs := xs) (fun x hx => by
    obtain ⟨τ1, τ2, r, τ3, τ4, h1, h2, h3, h4, h5⟩ := step x hx
    exact ⟨τ1, τ2, h1, h2, fun z => Bool.noConfusion z, fun _ => ⟨r, τ3, τ4, h3, h4, h5⟩⟩) [] (by simpa using hl)
  rw [List.filter_eq_self.mpr (fun _ _ => rfl)] at this
  exact this
theorem iRow_len (lo : Int) (n : Nat) : (iRow lo n).length = n := by simp [iRow]
theorem iRow_mem {lo : Int} {n : Nat} {d : D} (h : d ∈ iRow lo n) : ∃ i : Nat, i < n ∧ d = .int (lo + i) := by
  simp only [iRow, List.mem_map, List.mem_range] at h
  obtain ⟨i, hi, rfl⟩ := h
  exact ⟨i, hi, rfl⟩
theorem all_map_true {ds : List D} {f : D → D} (h : ∀ x ∈ ds, f x = .bl true) : allBls (ds.map f) = some (ds.map fun _ => true) := by
  induction ds with
  | nil => rfl
  | cons d ds ih =>
    rw [List.map_cons, h d List.mem_cons_self]
    unfold allBls
    rw [ih fun x hx => h x (List.mem_cons_of_mem _ hx)]
    rfl
theorem allBls_bl {α : Type} (ds : List α) (f : α → Bool) : allBls (ds.map fun d => .bl (f d)) = some (ds.map f) := by
  induction ds with
  | nil => rfl
  | cons d ds ih =>
    rw [List.map_cons]
    unfold allBls
    rw [ih]
    rfl
theorem allD_bl {α : Type} (ds : List α) (f : α → Bool) : allD [.lst (ds.map fun d => .bl (f d))] = some (.dat (.bl (ds.all f))) := by
  unfold allD
  dsimp only
  rw [allBls_bl]
  show some (RV.dat (D.bl ((ds.map f).all fun b => b))) = _
  rw [List.all_map]
  rfl
theorem sumD_int {α : Type} (ds : List α) (f : α → Int) : sumD [.lst (ds.map fun d => .int (f d))] = some (.dat (.int (ds.map f).sum)) := by
  unfold sumD
  have e : (ds.map fun d => D.int (f d)) = (ds.map f).map D.int := by simp
  dsimp only
  rw [e, allInts_map]
  rfl
end DL

set_option maxHeartbeats 4000000
/-! The walk of polyward_k53_whole_floor_sums_and_near_r, printed by gen.py. -/
namespace Lw
open PySem PySem.Spec PyProof.Rows L2 DL
def topS (i : Nat) : Stmt := PySem.Challenge.pw_polyward_k53_whole_floor_sums_and_near_r.main.body.getD i (.Pass ⟨0, 0, 0, 0⟩)
theorem bt_abs : bootBuiltins "abs" = some (.builtin "abs") := by decide +kernel
theorem bt_all : bootBuiltins "all" = some (.builtin "all") := by decide +kernel
theorem bt_bool : bootBuiltins "bool" = some (.type "bool") := by decide +kernel
theorem bt_dict : bootBuiltins "dict" = some (.type "dict") := by decide +kernel
theorem bt_int : bootBuiltins "int" = some (.type "int") := by decide +kernel
theorem bt_isinstance : bootBuiltins "isinstance" = some (.builtin "isinstance") := by decide +kernel
theorem bt_len : bootBuiltins "len" = some (.builtin "len") := by decide +kernel
theorem bt_list : bootBuiltins "list" = some (.type "list") := by decide +kernel
theorem bt_range : bootBuiltins "range" = some (.type "range") := by decide +kernel
theorem bt_reversed : bootBuiltins "reversed" = some (.type "reversed") := by decide +kernel
theorem bt_str : bootBuiltins "str" = some (.type "str") := by decide +kernel
theorem bt_sum : bootBuiltins "sum" = some (.builtin "sum") := by decide +kernel
theorem bt_tuple : bootBuiltins "tuple" = some (.type "tuple") := by decide +kernel
structure Txt (K : PySem.W.Frag) (mg : Str → Option Value) (g : Gm) (fd : Nat → FuncData) : Prop where
  z_abs : mg "abs" = none
  z_all : mg "all" = none
  z_bool : mg "bool" = none
  z_dict : mg "dict" = none
  z_int : mg "int" = none
  z_isinstance : mg "isinstance" = none
  z_len : mg "len" = none
  z_list : mg "list" = none
  z_range : mg "range" = none
  z_reversed : mg "reversed" = none
  z_str : mg "str" = none
  z_sum : mg "sum" = none
  z_tuple : mg "tuple" = none
  m13 : mg "_law_draws" = some (.ref (g 13))
  f13 : Fun K "_law_draws" "_law_draws" (topS 13) (g 13) (fd 13)
  b13 : Binds K (fd 13) ["script"] []
  m14 : mg "_law_take" = some (.ref (g 14))
  f14 : Fun K "_law_take" "_law_take" (topS 14) (g 14) (fd 14)
  b14 : Binds K (fd 14) ["draws", "bound"] []
  m15 : mg "_law_pick" = some (.ref (g 15))
  f15 : Fun K "_law_pick" "_law_pick" (topS 15) (g 15) (fd 15)
  b15 : Binds K (fd 15) ["draws", "some"] []
  m3 : mg "is_integer" = some (.ref (g 3))
  f3 : Fun K "is_integer" "is_integer" (topS 3) (g 3) (fd 3)
  b3 : Binds K (fd 3) ["value"] []
  m5 : mg "check_integers" = some (.ref (g 5))
  f5 : Fun K "check_integers" "check_integers" (topS 5) (g 5) (fd 5)
  b5 : Binds K (fd 5) ["values"] []
  m6 : mg "floor_by" = some (.ref (g 6))
  f6 : Fun K "floor_by" "floor_by" (topS 6) (g 6) (fd 6)
  b6 : Binds K (fd 6) ["n", "m", "a", "c"] []
  m7 : mg "floor_sum" = some (.ref (g 7))
  f7 : Fun K "floor_sum" "floor_sum" (topS 7) (g 7) (fd 7)
  b7 : Binds K (fd 7) ["n", "m", "a", "c"] []
  m8 : mg "check_ratio" = some (.ref (g 8))
  f8 : Fun K "check_ratio" "check_ratio" (topS 8) (g 8) (fd 8)
  b8 : Binds K (fd 8) ["n", "d"] []
  m9 : mg "parts_by" = some (.ref (g 9))
  f9 : Fun K "parts_by" "parts_by" (topS 9) (g 9) (fd 9)
  b9 : Binds K (fd 9) ["n", "d"] []
  m10 : mg "parts_of_ratio" = some (.ref (g 10))
  f10 : Fun K "parts_of_ratio" "parts_of_ratio" (topS 10) (g 10) (fd 10)
  b10 : Binds K (fd 10) ["n", "d"] []
  m11 : mg "near_ratios" = some (.ref (g 11))
  f11 : Fun K "near_ratios" "near_ratios" (topS 11) (g 11) (fd 11)
  b11 : Binds K (fd 11) ["n", "d"] []
  m18 : mg "_law_told" = some (.ref (g 18))
  f18 : Fun K "_law_told" "_law_told" (topS 18) (g 18) (fd 18)
  b18 : Binds K (fd 18) ["which", "numbers"] []
  m17 : mg "_law_same" = some (.ref (g 17))
  f17 : Fun K "_law_same" "_law_same" (topS 17) (g 17) (fd 17)
  b17 : Binds K (fd 17) ["told", "due"] []
  m20 : mg "_law_share" = some (.ref (g 20))
  f20 : Fun K "_law_share" "_law_share" (topS 20) (g 20) (fd 20)
  b20 : Binds K (fd 20) ["a", "b"] []
  m21 : mg "_law_put" = some (.ref (g 21))
  f21 : Fun K "_law_put" "_law_put" (topS 21) (g 21) (fd 21)
  b21 : Binds K (fd 21) ["parts"] []
  m22 : mg "_law_is_nearer" = some (.ref (g 22))
  f22 : Fun K "_law_is_nearer" "_law_is_nearer" (topS 22) (g 22) (fd 22)
  b22 : Binds K (fd 22) ["n", "d", "one", "other"] []
  m23 : mg "_law_are_ratios_due" = some (.ref (g 23))
  f23 : Fun K "_law_are_ratios_due" "_law_are_ratios_due" (topS 23) (g 23) (fd 23)
  b23 : Binds K (fd 23) ["draws", "n", "d"] []
  m19 : mg "_law_sum" = some (.ref (g 19))
  f19 : Fun K "_law_sum" "_law_sum" (topS 19) (g 19) (fd 19)
  b19 : Binds K (fd 19) ["n", "m", "a", "c"] []
  m24 : mg "law" = some (.ref (g 24))
  f24 : Fun K "law" "law" (topS 24) (g 24) (fd 24)
  b24 : Binds K (fd 24) ["script"] []
  m1 : mg "PolyError" = some (.ref (g 1))
  m2 : mg "NotRight" = some (.ref (g 2))
  x2 : PySem.W.excIn K (g 2) [.type "ValueError", .type "Exception", .type "BaseException", .type "object"] "ValueError.__new__" = true
  c2 : PySem.W.keepIn K (.ref (g 2)) = true
  s2 : PySem.W.subIn K (.ref (g 2)) (.type "BaseException") = some true
  t2 : PySem.W.typeIn K (.ref (g 2)) = some (.type "type")
  e2_1 : PySem.W.exmOne K (.ref (g 2)) (.ref (g 1)) = some true
  xc2 : ExcC K (g 2)
  k2_2 : PySem.W.kitOne K (.ref (g 2)) (.ref (g 2)) = some true
section
variable {P : Program} {w : World} {K : PySem.W.Frag} {mg : Str → Option Value} {base : Heap} {g : Gm} {fd : Nat → FuncData}
/-! ### _law_draws -/
abbrev nn__law_draws : List Str := ["script", "draws", "cell", "number", "first", "k", "seed"]
theorem sc__law_draws : FnScope nn__law_draws ["script"] (defScope (topS 13)) := ⟨rfl, rfl, rfl, by decide +kernel, rfl, by decide +kernel, by decide +kernel⟩
noncomputable def M_law_draws : DS → SRes :=
 (mSeq
 (mSet 1 (mLst mNil))
 (mSeq
 (mFor (mIter (mVar 0)) (tgN 2) (mSeq
 (mSet 3 (mCB absD (mCons (mVar 2) mNil)))
 (mSeq
 (mIfS (mTest (mBin ltD (mVar 3) (mBin powD (mC (.int 10)) (mC (.int 18))))) (mSeq
 (mSet 4 (mBin modD (mCB int1D (mCons (mBin addD (mBin mulD (mVar 3) (mC (.int 48271))) (mC (.int 11))) mNil)) (mC (.int 2147483647))))
 (mSeq
 (mDrop (mMeth 1 fAppend (mCons (mBin modD (mCB int1D (mCons (mBin addD (mBin mulD (mVar 4) (mC (.int 69621))) (mVar 3)) mNil)) (mC (.int 2147483629))) mNil)))
 (mSeq
 (mDrop (mMeth 1 fAppend (mCons (mBin modD (mCB int1D (mCons (mBin addD (mVar 4) (mBin fdivD (mVar 3) (mC (.int 7)))) mNil)) (mC (.int 1000003))) mNil)))
 (mSet 3 (mC (.int 0)))))) mSkip)
 (mFor (mFast (mCons (mC (.int 60)) mNil) rng1) (tgN 5) (mIfS (mTest (mBin gtD (mVar 3) (mC (.int 0)))) (mSeq
 (mDrop (mMeth 1 fAppend (mCons (mBin modD (mCB int1D (mCons (mVar 3) mNil)) (mC (.int 997))) mNil)))
 (mSet 3 (mBin fdivD (mVar 3) (mC (.int 997))))) mSkip)))))
 (mSeq
 (mSet 6 (mC (.int 1)))
 (mSeq
 (mIfS (mTest (mBin gtD (mCB lenD (mCons (mVar 0) mNil)) (mC (.int 0)))) (mSet 6 (mBin addD (mC (.int 1)) (mCB absD (mCons (mBin ixD (mVar 0) (mC (.int 0))) mNil)))) mSkip)
 (mSeq
 (mFor (mFast (mCons (mC (.int 2000)) mNil) rng1) (tgN 5) (mSeq
 (mSet 6 (mBin modD (mCB int1D (mCons (mBin addD (mBin mulD (mVar 6) (mC (.int 48271))) (mC (.int 69621))) mNil)) (mC (.int 2147483647))))
 (mDrop (mMeth 1 fAppend (mCons (mBin fdivD (mVar 6) (mC (.int 5))) mNil)))))
 (mRet (mUn revD (mVar 1))))))))
noncomputable def F_law_draws : List D → FR := runF nn__law_draws.length M_law_draws
theorem ok_law_draws (T : Txt K mg g fd) : FnOk P w K mg base (L2.CX P w) 1 (g 13) (fd 13) ["script"] (spP g K 1 F_law_draws) := by
  refine fn_p (N := nn__law_draws) (lv := 0) (m := M_law_draws) T.f13 sc__law_draws fun cdv A outer s H E hr => ?_
  have nd : (nn__law_draws : List Str).Nodup := sc__law_draws.nd
  have hu := hr.units
  have tk : Takes (cxOf (L2.CX P w) P w K mg base nn__law_draws "_law_draws" (defScope (topS 13)) (g 13) cdv A outer s H E) (fun cls d _ H => E cls d H) := takes_of rfl rfl rfl rfl
  have po : PassesOwn (model P w) (cxOf (L2.CX P w) P w K mg base nn__law_draws "_law_draws" (defScope (topS 13)) (g 13) cdv A outer s H E).A (cxOf (L2.CX P w) P w K mg base nn__law_draws "_law_draws" (defScope (topS 13)) (g 13) cdv A outer s H E).env (cxOf (L2.CX P w) P w K mg base nn__law_draws "_law_draws" (defScope (topS 13)) (g 13) cdv A outer s H E).xe := passes_of rfl
  exact (ds_cons
 (ds_set 1 nd (de_lst da_nil))
 (ds_cons
 (ds_for po rfl (di_seq (de_var (i := 0))) (dg_name 2 nd) (ds_cons
 (ds_set 3 nd (de_callBi callD_abs rfl T.z_abs bt_abs (da_cons (de_var (i := 2)) da_nil)))
 (ds_cons
 (ds_if (dt_cmp (opD_lt hu) (de_var (i := 3)) (de_bin opD_pow de_int de_int)) (ds_cons
 (ds_set 4 nd (de_bin opD_mod (de_callTy callD_int rfl T.z_int bt_int (da_cons (de_bin opD_add (de_bin opD_mul (de_var (i := 3)) de_int) de_int) da_nil)) de_int))
 (ds_cons
 (ds_expr (de_append 1 (da_cons (de_bin opD_mod (de_callTy callD_int rfl T.z_int bt_int (da_cons (de_bin opD_add (de_bin opD_mul (de_var (i := 4)) de_int) (de_var (i := 3))) da_nil)) de_int) da_nil)))
 (ds_cons
 (ds_expr (de_append 1 (da_cons (de_bin opD_mod (de_callTy callD_int rfl T.z_int bt_int (da_cons (de_bin opD_add (de_var (i := 4)) (de_bin opD_fdiv (de_var (i := 3)) de_int)) da_nil)) de_int) da_nil)))
 (ds_one (ds_set 3 nd de_int))))) ds_nil)
 (ds_one (ds_for po rfl (di_range1 rfl T.z_range (da_cons de_int da_nil)) (dg_name 5 nd) (ds_one (ds_if (dt_cmp opD_gt (de_var (i := 3)) de_int) (ds_cons
 (ds_expr (de_append 1 (da_cons (de_bin opD_mod (de_callTy callD_int rfl T.z_int bt_int (da_cons (de_var (i := 3)) da_nil)) de_int) da_nil)))
 (ds_one (ds_set 3 nd (de_bin opD_fdiv (de_var (i := 3)) de_int)))) ds_nil)))))))
 (ds_cons
 (ds_set 6 nd de_int)
 (ds_cons
 (ds_if (dt_cmp opD_gt (de_callBi callD_len rfl T.z_len bt_len (da_cons (de_var (i := 0)) da_nil)) de_int) (ds_one (ds_set 6 nd (de_bin opD_add de_int (de_callBi callD_abs rfl T.z_abs bt_abs (da_cons (de_ix (de_var (i := 0)) de_int) da_nil))))) ds_nil)
 (ds_cons
 (ds_for po rfl (di_range1 rfl T.z_range (da_cons de_int da_nil)) (dg_name 5 nd) (ds_cons
 (ds_set 6 nd (de_bin opD_mod (de_callTy callD_int rfl T.z_int bt_int (da_cons (de_bin opD_add (de_bin opD_mul (de_var (i := 6)) de_int) de_int) da_nil)) de_int))
 (ds_one (ds_expr (de_append 1 (da_cons (de_bin opD_fdiv (de_var (i := 6)) de_int) da_nil))))))
 (ds_one (ds_ret (de_listRev rfl rfl T.z_list rfl T.z_reversed (de_var (i := 1))))))))))
/-! ### _law_take -/
abbrev nn__law_take : List Str := ["draws", "bound"]
theorem sc__law_take : FnScope nn__law_take ["draws", "bound"] (defScope (topS 14)) := ⟨rfl, rfl, rfl, by decide +kernel, rfl, by decide +kernel, by decide +kernel⟩
noncomputable def M_law_take : DS → SRes :=
 (mSeq
 (mIfS (mTest (mBin eqD (mCB lenD (mCons (mVar 0) mNil)) (mC (.int 0)))) (mRet (mC (.int 0))) mSkip)
 (mRet (mBin modD (mCB int1D (mCons (mMeth 0 fPop mNil) mNil)) (mVar 1))))
noncomputable def F_law_take : Cn → List D → FB := runB nn__law_take.length M_law_take
theorem ok_law_take (T : Txt K mg g fd) : FnOk P w K mg base (L2.CX P w) 1 (g 14) (fd 14) ["draws", "bound"] (spB g K 2 F_law_take) := by
  refine fn_b (N := nn__law_take) (lv := 0) (m := M_law_take) T.f14 sc__law_take fun cdv A outer s H E hr => ?_
  have nd : (nn__law_take : List Str).Nodup := sc__law_take.nd
  have hu := hr.units
  have tk : Takes (cxOf (L2.CX P w) P w K mg base nn__law_take "_law_take" (defScope (topS 14)) (g 14) cdv A outer s H E) (fun cls d _ H => E cls d H) := takes_of rfl rfl rfl rfl
  have po : PassesOwn (model P w) (cxOf (L2.CX P w) P w K mg base nn__law_take "_law_take" (defScope (topS 14)) (g 14) cdv A outer s H E).A (cxOf (L2.CX P w) P w K mg base nn__law_take "_law_take" (defScope (topS 14)) (g 14) cdv A outer s H E).env (cxOf (L2.CX P w) P w K mg base nn__law_take "_law_take" (defScope (topS 14)) (g 14) cdv A outer s H E).xe := passes_of rfl
  exact (ds_cons
 (ds_if (dt_cmp (opD_eq hu) (de_callBi callD_len rfl T.z_len bt_len (da_cons (de_var (i := 0)) da_nil)) de_int) (ds_one (ds_ret de_int)) ds_nil)
 (ds_one (ds_ret (de_bin opD_mod (de_callTy callD_int rfl T.z_int bt_int (da_cons (de_pop 0) da_nil)) (de_var (i := 1))))))
/-! ### _law_pick -/
abbrev nn__law_pick : List Str := ["draws", "some"]
theorem sc__law_pick : FnScope nn__law_pick ["draws", "some"] (defScope (topS 15)) := ⟨rfl, rfl, rfl, by decide +kernel, rfl, by decide +kernel, by decide +kernel⟩
noncomputable def M_law_pick : DS → SRes :=
 (mRet (mBin ixD (mVar 1) (mCallB 2 F_law_take 0 (mCons (mCB lenD (mCons (mVar 1) mNil)) mNil))))
noncomputable def F_law_pick : Cn → List D → FB := runB nn__law_pick.length M_law_pick
theorem ok_law_pick (T : Txt K mg g fd) : FnOk P w K mg base (L2.CX P w) 2 (g 15) (fd 15) ["draws", "some"] (spB g K 2 F_law_pick) := by
  refine fn_b (N := nn__law_pick) (lv := 1) (m := M_law_pick) T.f15 sc__law_pick fun cdv A outer s H E hr => ?_
  have nd : (nn__law_pick : List Str).Nodup := sc__law_pick.nd
  have hu := hr.units
  have tk : Takes (cxOf (L2.CX P w) P w K mg base nn__law_pick "_law_pick" (defScope (topS 15)) (g 15) cdv A outer s H E) (fun cls d _ H => E cls d H) := takes_of rfl rfl rfl rfl
  have po : PassesOwn (model P w) (cxOf (L2.CX P w) P w K mg base nn__law_pick "_law_pick" (defScope (topS 15)) (g 15) cdv A outer s H E).A (cxOf (L2.CX P w) P w K mg base nn__law_pick "_law_pick" (defScope (topS 15)) (g 15) cdv A outer s H E).env (cxOf (L2.CX P w) P w K mg base nn__law_pick "_law_pick" (defScope (topS 15)) (g 15) cdv A outer s H E).xe := passes_of rfl
  exact (ds_one (ds_ret (de_ix (de_var (i := 1)) (de_callB 0 (ok_law_take T) tk (hr.mono (by decide)) rfl T.m14 T.f14.kp T.b14 (da_cons (de_callBi callD_len rfl T.z_len bt_len (da_cons (de_var (i := 1)) da_nil)) da_nil)))))
/-! ### is_integer -/
abbrev nn_is_integer : List Str := ["value"]
theorem sc_is_integer : FnScope nn_is_integer ["value"] (defScope (topS 3)) := ⟨rfl, rfl, rfl, by decide +kernel, rfl, by decide +kernel, by decide +kernel⟩
noncomputable def M_is_integer : DS → SRes :=
 (mRet (mAnd (mIsi "int" (mVar 0)) (mNot (mIsi "bool" (mVar 0)))))
noncomputable def F_is_integer : List D → FR := runF nn_is_integer.length M_is_integer
theorem ok_is_integer (T : Txt K mg g fd) : FnOk P w K mg base (L2.CX P w) 1 (g 3) (fd 3) ["value"] (spP g K 1 F_is_integer) := by
  refine fn_p (N := nn_is_integer) (lv := 0) (m := M_is_integer) T.f3 sc_is_integer fun cdv A outer s H E hr => ?_
  have nd : (nn_is_integer : List Str).Nodup := sc_is_integer.nd
  have hu := hr.units
  have tk : Takes (cxOf (L2.CX P w) P w K mg base nn_is_integer "is_integer" (defScope (topS 3)) (g 3) cdv A outer s H E) (fun cls d _ H => E cls d H) := takes_of rfl rfl rfl rfl
  have po : PassesOwn (model P w) (cxOf (L2.CX P w) P w K mg base nn_is_integer "is_integer" (defScope (topS 3)) (g 3) cdv A outer s H E).A (cxOf (L2.CX P w) P w K mg base nn_is_integer "is_integer" (defScope (topS 3)) (g 3) cdv A outer s H E).env (cxOf (L2.CX P w) P w K mg base nn_is_integer "is_integer" (defScope (topS 3)) (g 3) cdv A outer s H E).xe := passes_of rfl
  exact (ds_one (ds_ret (de_and (de_isi "int" rfl T.z_isinstance rfl T.z_int bt_int (de_var (i := 0))) (de_one (de_not (de_isi "bool" rfl T.z_isinstance rfl T.z_bool bt_bool (de_var (i := 0))))))))
/-! ### check_integers -/
abbrev nn_check_integers : List Str := ["values", "value"]
theorem sc_check_integers : FnScope nn_check_integers ["values"] (defScope (topS 5)) := ⟨rfl, rfl, rfl, by decide +kernel, rfl, by decide +kernel, by decide +kernel⟩
noncomputable def M_check_integers : DS → SRes :=
 (mIfS (mNotT (mTest (mCB allD (mCons (mLc (mIter (mVar 0)) [1] (tgN 1) mYes (mCall 1 F_is_integer (mCons (mVar 1) mNil))) mNil)))) (mRaise 2) mSkip)
noncomputable def F_check_integers : List D → FR := runF nn_check_integers.length M_check_integers
theorem ok_check_integers (T : Txt K mg g fd) : FnOk P w K mg base (L2.CX P w) 2 (g 5) (fd 5) ["values"] (spP g K 1 F_check_integers) := by
  refine fn_p (N := nn_check_integers) (lv := 1) (m := M_check_integers) T.f5 sc_check_integers fun cdv A outer s H E hr => ?_
  have nd : (nn_check_integers : List Str).Nodup := sc_check_integers.nd
  have hu := hr.units
  have tk : Takes (cxOf (L2.CX P w) P w K mg base nn_check_integers "check_integers" (defScope (topS 5)) (g 5) cdv A outer s H E) (fun cls d _ H => E cls d H) := takes_of rfl rfl rfl rfl
  have po : PassesOwn (model P w) (cxOf (L2.CX P w) P w K mg base nn_check_integers "check_integers" (defScope (topS 5)) (g 5) cdv A outer s H E).A (cxOf (L2.CX P w) P w K mg base nn_check_integers "check_integers" (defScope (topS 5)) (g 5) cdv A outer s H E).env (cxOf (L2.CX P w) P w K mg base nn_check_integers "check_integers" (defScope (topS 5)) (g 5) cdv A outer s H E).xe := passes_of rfl
  exact (ds_one (ds_if (dt_not (dt_val (de_callBi (callD_all rfl) rfl T.z_all bt_all (da_cons (de_lc (own := [("value", 1)]) rfl nd (di_seq (de_var (i := 0))) (blkOk_by (N := nn_check_integers) (sc := defScope (topS 5)) (by decide +kernel)) (fun _ _ _ _ _ => (dg_name 1 nd)) (fun _ _ _ _ _ => dts_nil) (fun _ _ _ _ _ => (de_call (ok_is_integer T) takes0 (hr.mono (by decide)) rfl T.m3 T.f3.kp T.b3 (da_cons (de_var (i := 1)) da_nil)))) da_nil)))) (ds_one (ds_raise rfl tk PySem.F.excBase_ValueError T.x2 T.m2 T.c2 (raises_own T.s2 T.t2) rfl)) ds_nil))
/-! ### floor_by -/
abbrev nn_floor_by : List Str := ["n", "m", "a", "c", "found", "high"]
theorem sc_floor_by : FnScope nn_floor_by ["n", "m", "a", "c"] (defScope (topS 6)) := ⟨rfl, rfl, rfl, by decide +kernel, rfl, by decide +kernel, by decide +kernel⟩
noncomputable def M_floor_by : DS → SRes :=
 (mSeq
 (mSet 4 (mC (.int 0)))
 (mSeq
 (mWhile (mTest (mBin gtD (mVar 0) (mC (.int 0)))) (mSeq
 (mAug 4 (fun a b => some (a + b)) (mBin addD (mBin mulD (mBin fdivD (mBin mulD (mBin subD (mVar 0) (mC (.int 1))) (mVar 0)) (mC (.int 2))) (mBin fdivD (mVar 2) (mVar 1))) (mBin mulD (mVar 0) (mBin fdivD (mVar 3) (mVar 1)))))
 (mSeq
 (mPar 2 3 (mCons (mBin modD (mVar 2) (mVar 1)) (mCons (mBin modD (mVar 3) (mVar 1)) mNil)))
 (mSeq
 (mSet 5 (mBin addD (mBin mulD (mVar 2) (mVar 0)) (mVar 3)))
 (mSeq
 (mIfS (mTest (mBin ltD (mVar 5) (mVar 1))) (mRet (mVar 4)) mSkip)
 (mAsg (tgT 4 (tgCons (tgN 0) (tgCons (tgN 3) (tgCons (tgN 1) (tgCons (tgN 2) tgNil))))) (mTup (mCons (mBin fdivD (mVar 5) (mVar 1)) (mCons (mBin modD (mVar 5) (mVar 1)) (mCons (mVar 2) (mCons (mVar 1) mNil)))))))))))
 (mRet (mVar 4))))
noncomputable def F_floor_by : List D → FR := runF nn_floor_by.length M_floor_by
theorem ok_floor_by (T : Txt K mg g fd) : FnOk P w K mg base (L2.CX P w) 1 (g 6) (fd 6) ["n", "m", "a", "c"] (spP g K 4 F_floor_by) := by
  refine fn_p (N := nn_floor_by) (lv := 0) (m := M_floor_by) T.f6 sc_floor_by fun cdv A outer s H E hr => ?_
  have nd : (nn_floor_by : List Str).Nodup := sc_floor_by.nd
  have hu := hr.units
  have tk : Takes (cxOf (L2.CX P w) P w K mg base nn_floor_by "floor_by" (defScope (topS 6)) (g 6) cdv A outer s H E) (fun cls d _ H => E cls d H) := takes_of rfl rfl rfl rfl
  have po : PassesOwn (model P w) (cxOf (L2.CX P w) P w K mg base nn_floor_by "floor_by" (defScope (topS 6)) (g 6) cdv A outer s H E).A (cxOf (L2.CX P w) P w K mg base nn_floor_by "floor_by" (defScope (topS 6)) (g 6) cdv A outer s H E).env (cxOf (L2.CX P w) P w K mg base nn_floor_by "floor_by" (defScope (topS 6)) (g 6) cdv A outer s H E).xe := passes_of rfl
  exact (ds_cons
 (ds_set 4 nd de_int)
 (ds_cons
 (ds_while po (dt_cmp opD_gt (de_var (i := 0)) de_int) (ds_cons
 (ds_aug 4 nd (de_bin opD_add (de_bin opD_mul (de_bin opD_fdiv (de_bin opD_mul (de_bin opD_sub (de_var (i := 0)) de_int) (de_var (i := 0))) de_int) (de_bin opD_fdiv (de_var (i := 2)) (de_var (i := 1)))) (de_bin opD_mul (de_var (i := 0)) (de_bin opD_fdiv (de_var (i := 3)) (de_var (i := 1))))) ip_addO)
 (ds_cons
 (ds_par 2 3 rfl nd (da_cons (de_bin opD_mod (de_var (i := 2)) (de_var (i := 1))) (da_cons (de_bin opD_mod (de_var (i := 3)) (de_var (i := 1))) da_nil)))
 (ds_cons
 (ds_set 5 nd (de_bin opD_add (de_bin opD_mul (de_var (i := 2)) (de_var (i := 0))) (de_var (i := 3))))
 (ds_cons
 (ds_if (dt_cmp (opD_lt hu) (de_var (i := 5)) (de_var (i := 1))) (ds_one (ds_ret (de_var (i := 4)))) ds_nil)
 (ds_one (ds_asg (de_tup (da_cons (de_bin opD_fdiv (de_var (i := 5)) (de_var (i := 1))) (da_cons (de_bin opD_mod (de_var (i := 5)) (de_var (i := 1))) (da_cons (de_var (i := 2)) (da_cons (de_var (i := 1)) da_nil))))) (dg_tup rfl (dgs_cons (dg_name 0 nd) (dgs_cons (dg_name 3 nd) (dgs_cons (dg_name 1 nd) (dgs_cons (dg_name 2 nd) dgs_nil))))))))))))
 (ds_one (ds_ret (de_var (i := 4))))))
/-! ### floor_sum -/
abbrev nn_floor_sum : List Str := ["n", "m", "a", "c", "lows"]
theorem sc_floor_sum : FnScope nn_floor_sum ["n", "m", "a", "c"] (defScope (topS 7)) := ⟨rfl, rfl, rfl, by decide +kernel, rfl, by decide +kernel, by decide +kernel⟩
noncomputable def M_floor_sum : DS → SRes :=
 (mSeq
 (mDrop (mCall 1 F_check_integers (mCons (mLst (mCons (mVar 0) (mCons (mVar 1) (mCons (mVar 2) (mCons (mVar 3) mNil))))) mNil)))
 (mSeq
 (mIfS (mOrT (mTest (mBin ltD (mVar 0) (mC (.int 0)))) (mTest (mBin ltD (mVar 1) (mC (.int 1))))) (mRaise 2) mSkip)
 (mSeq
 (mSet 4 (mBin addD (mBin mulD (mBin fdivD (mBin mulD (mVar 0) (mBin subD (mVar 0) (mC (.int 1)))) (mC (.int 2))) (mBin fdivD (mVar 2) (mVar 1))) (mBin mulD (mVar 0) (mBin fdivD (mVar 3) (mVar 1)))))
 (mRet (mBin addD (mVar 4) (mCall 4 F_floor_by (mCons (mVar 0) (mCons (mVar 1) (mCons (mBin modD (mVar 2) (mVar 1)) (mCons (mBin modD (mVar 3) (mVar 1)) mNil))))))))))
noncomputable def F_floor_sum : List D → FR := runF nn_floor_sum.length M_floor_sum
theorem ok_floor_sum (T : Txt K mg g fd) : FnOk P w K mg base (L2.CX P w) 3 (g 7) (fd 7) ["n", "m", "a", "c"] (spP g K 4 F_floor_sum) := by
  refine fn_p (N := nn_floor_sum) (lv := 2) (m := M_floor_sum) T.f7 sc_floor_sum fun cdv A outer s H E hr => ?_
  have nd : (nn_floor_sum : List Str).Nodup := sc_floor_sum.nd
  have hu := hr.units
  have tk : Takes (cxOf (L2.CX P w) P w K mg base nn_floor_sum "floor_sum" (defScope (topS 7)) (g 7) cdv A outer s H E) (fun cls d _ H => E cls d H) := takes_of rfl rfl rfl rfl
  have po : PassesOwn (model P w) (cxOf (L2.CX P w) P w K mg base nn_floor_sum "floor_sum" (defScope (topS 7)) (g 7) cdv A outer s H E).A (cxOf (L2.CX P w) P w K mg base nn_floor_sum "floor_sum" (defScope (topS 7)) (g 7) cdv A outer s H E).env (cxOf (L2.CX P w) P w K mg base nn_floor_sum "floor_sum" (defScope (topS 7)) (g 7) cdv A outer s H E).xe := passes_of rfl
  exact (ds_cons
 (ds_expr (de_call (ok_check_integers T) tk (hr.mono (by decide)) rfl T.m5 T.f5.kp T.b5 (da_cons (de_lst (da_cons (de_var (i := 0)) (da_cons (de_var (i := 1)) (da_cons (de_var (i := 2)) (da_cons (de_var (i := 3)) da_nil))))) da_nil)))
 (ds_cons
 (ds_if (dt_w (dw_or (dt_cmp (opD_lt hu) (de_var (i := 0)) de_int) (dw_or1 (dt_cmp (opD_lt hu) (de_var (i := 1)) de_int)))) (ds_one (ds_raise rfl tk PySem.F.excBase_ValueError T.x2 T.m2 T.c2 (raises_own T.s2 T.t2) rfl)) ds_nil)
 (ds_cons
 (ds_set 4 nd (de_bin opD_add (de_bin opD_mul (de_bin opD_fdiv (de_bin opD_mul (de_var (i := 0)) (de_bin opD_sub (de_var (i := 0)) de_int)) de_int) (de_bin opD_fdiv (de_var (i := 2)) (de_var (i := 1)))) (de_bin opD_mul (de_var (i := 0)) (de_bin opD_fdiv (de_var (i := 3)) (de_var (i := 1))))))
 (ds_one (ds_ret (de_bin opD_add (de_var (i := 4)) (de_call (ok_floor_by T) tk (hr.mono (by decide)) rfl T.m6 T.f6.kp T.b6 (da_cons (de_var (i := 0)) (da_cons (de_var (i := 1)) (da_cons (de_bin opD_mod (de_var (i := 2)) (de_var (i := 1))) (da_cons (de_bin opD_mod (de_var (i := 3)) (de_var (i := 1))) da_nil)))))))))))
/-! ### check_ratio -/
abbrev nn_check_ratio : List Str := ["n", "d"]
theorem sc_check_ratio : FnScope nn_check_ratio ["n", "d"] (defScope (topS 8)) := ⟨rfl, rfl, rfl, by decide +kernel, rfl, by decide +kernel, by decide +kernel⟩
noncomputable def M_check_ratio : DS → SRes :=
 (mSeq
 (mDrop (mCall 1 F_check_integers (mCons (mLst (mCons (mVar 0) (mCons (mVar 1) mNil))) mNil)))
 (mIfS (mOrT (mTest (mBin ltD (mVar 0) (mC (.int 0)))) (mTest (mBin ltD (mVar 1) (mC (.int 1))))) (mRaise 2) mSkip))
noncomputable def F_check_ratio : List D → FR := runF nn_check_ratio.length M_check_ratio
theorem ok_check_ratio (T : Txt K mg g fd) : FnOk P w K mg base (L2.CX P w) 3 (g 8) (fd 8) ["n", "d"] (spP g K 2 F_check_ratio) := by
  refine fn_p (N := nn_check_ratio) (lv := 2) (m := M_check_ratio) T.f8 sc_check_ratio fun cdv A outer s H E hr => ?_
  have nd : (nn_check_ratio : List Str).Nodup := sc_check_ratio.nd
  have hu := hr.units
  have tk : Takes (cxOf (L2.CX P w) P w K mg base nn_check_ratio "check_ratio" (defScope (topS 8)) (g 8) cdv A outer s H E) (fun cls d _ H => E cls d H) := takes_of rfl rfl rfl rfl
  have po : PassesOwn (model P w) (cxOf (L2.CX P w) P w K mg base nn_check_ratio "check_ratio" (defScope (topS 8)) (g 8) cdv A outer s H E).A (cxOf (L2.CX P w) P w K mg base nn_check_ratio "check_ratio" (defScope (topS 8)) (g 8) cdv A outer s H E).env (cxOf (L2.CX P w) P w K mg base nn_check_ratio "check_ratio" (defScope (topS 8)) (g 8) cdv A outer s H E).xe := passes_of rfl
  exact (ds_cons
 (ds_expr (de_call (ok_check_integers T) tk (hr.mono (by decide)) rfl T.m5 T.f5.kp T.b5 (da_cons (de_lst (da_cons (de_var (i := 0)) (da_cons (de_var (i := 1)) da_nil))) da_nil)))
 (ds_one (ds_if (dt_w (dw_or (dt_cmp (opD_lt hu) (de_var (i := 0)) de_int) (dw_or1 (dt_cmp (opD_lt hu) (de_var (i := 1)) de_int)))) (ds_one (ds_raise rfl tk PySem.F.excBase_ValueError T.x2 T.m2 T.c2 (raises_own T.s2 T.t2) rfl)) ds_nil)))
/-! ### parts_by -/
abbrev nn_parts_by : List Str := ["n", "d", "found"]
theorem sc_parts_by : FnScope nn_parts_by ["n", "d"] (defScope (topS 9)) := ⟨rfl, rfl, rfl, by decide +kernel, rfl, by decide +kernel, by decide +kernel⟩
noncomputable def M_parts_by : DS → SRes :=
 (mSeq
 (mSet 2 (mLst mNil))
 (mSeq
 (mWhile (mTest (mBin gtD (mVar 1) (mC (.int 0)))) (mSeq
 (mDrop (mMeth 2 fAppend (mCons (mBin fdivD (mVar 0) (mVar 1)) mNil)))
 (mPar 0 1 (mCons (mVar 1) (mCons (mBin modD (mVar 0) (mVar 1)) mNil)))))
 (mRet (mVar 2))))
noncomputable def F_parts_by : List D → FR := runF nn_parts_by.length M_parts_by
theorem ok_parts_by (T : Txt K mg g fd) : FnOk P w K mg base (L2.CX P w) 1 (g 9) (fd 9) ["n", "d"] (spP g K 2 F_parts_by) := by
  refine fn_p (N := nn_parts_by) (lv := 0) (m := M_parts_by) T.f9 sc_parts_by fun cdv A outer s H E hr => ?_
  have nd : (nn_parts_by : List Str).Nodup := sc_parts_by.nd
  have hu := hr.units
  have tk : Takes (cxOf (L2.CX P w) P w K mg base nn_parts_by "parts_by" (defScope (topS 9)) (g 9) cdv A outer s H E) (fun cls d _ H => E cls d H) := takes_of rfl rfl rfl rfl
  have po : PassesOwn (model P w) (cxOf (L2.CX P w) P w K mg base nn_parts_by "parts_by" (defScope (topS 9)) (g 9) cdv A outer s H E).A (cxOf (L2.CX P w) P w K mg base nn_parts_by "parts_by" (defScope (topS 9)) (g 9) cdv A outer s H E).env (cxOf (L2.CX P w) P w K mg base nn_parts_by "parts_by" (defScope (topS 9)) (g 9) cdv A outer s H E).xe := passes_of rfl
  exact (ds_cons
 (ds_set 2 nd (de_lst da_nil))
 (ds_cons
 (ds_while po (dt_cmp opD_gt (de_var (i := 1)) de_int) (ds_cons
 (ds_expr (de_append 2 (da_cons (de_bin opD_fdiv (de_var (i := 0)) (de_var (i := 1))) da_nil)))
 (ds_one (ds_par 0 1 rfl nd (da_cons (de_var (i := 1)) (da_cons (de_bin opD_mod (de_var (i := 0)) (de_var (i := 1))) da_nil))))))
 (ds_one (ds_ret (de_var (i := 2))))))
/-! ### parts_of_ratio -/
abbrev nn_parts_of_ratio : List Str := ["n", "d"]
theorem sc_parts_of_ratio : FnScope nn_parts_of_ratio ["n", "d"] (defScope (topS 10)) := ⟨rfl, rfl, rfl, by decide +kernel, rfl, by decide +kernel, by decide +kernel⟩
noncomputable def M_parts_of_ratio : DS → SRes :=
 (mSeq
 (mDrop (mCall 2 F_check_ratio (mCons (mVar 0) (mCons (mVar 1) mNil))))
 (mRet (mCall 2 F_parts_by (mCons (mVar 0) (mCons (mVar 1) mNil)))))
noncomputable def F_parts_of_ratio : List D → FR := runF nn_parts_of_ratio.length M_parts_of_ratio
theorem ok_parts_of_ratio (T : Txt K mg g fd) : FnOk P w K mg base (L2.CX P w) 4 (g 10) (fd 10) ["n", "d"] (spP g K 2 F_parts_of_ratio) := by
  refine fn_p (N := nn_parts_of_ratio) (lv := 3) (m := M_parts_of_ratio) T.f10 sc_parts_of_ratio fun cdv A outer s H E hr => ?_
  have nd : (nn_parts_of_ratio : List Str).Nodup := sc_parts_of_ratio.nd
  have hu := hr.units
  have tk : Takes (cxOf (L2.CX P w) P w K mg base nn_parts_of_ratio "parts_of_ratio" (defScope (topS 10)) (g 10) cdv A outer s H E) (fun cls d _ H => E cls d H) := takes_of rfl rfl rfl rfl
  have po : PassesOwn (model P w) (cxOf (L2.CX P w) P w K mg base nn_parts_of_ratio "parts_of_ratio" (defScope (topS 10)) (g 10) cdv A outer s H E).A (cxOf (L2.CX P w) P w K mg base nn_parts_of_ratio "parts_of_ratio" (defScope (topS 10)) (g 10) cdv A outer s H E).env (cxOf (L2.CX P w) P w K mg base nn_parts_of_ratio "parts_of_ratio" (defScope (topS 10)) (g 10) cdv A outer s H E).xe := passes_of rfl
  exact (ds_cons
 (ds_expr (de_call (ok_check_ratio T) tk (hr.mono (by decide)) rfl T.m8 T.f8.kp T.b8 (da_cons (de_var (i := 0)) (da_cons (de_var (i := 1)) da_nil))))
 (ds_one (ds_ret (de_call (ok_parts_by T) tk (hr.mono (by decide)) rfl T.m9 T.f9.kp T.b9 (da_cons (de_var (i := 0)) (da_cons (de_var (i := 1)) da_nil))))))
/-! ### near_ratios -/
abbrev nn_near_ratios : List Str := ["n", "d", "one", "other", "found", "part"]
theorem sc_near_ratios : FnScope nn_near_ratios ["n", "d"] (defScope (topS 11)) := ⟨rfl, rfl, rfl, by decide +kernel, rfl, by decide +kernel, by decide +kernel⟩
noncomputable def M_near_ratios : DS → SRes :=
 (mSeq
 (mDrop (mCall 2 F_check_ratio (mCons (mVar 0) (mCons (mVar 1) mNil))))
 (mSeq
 (mAsg (tgT 2 (tgCons (tgN 2) (tgCons (tgN 3) tgNil))) (mTup (mCons (mTup (mCons (mC (.int 1)) (mCons (mC (.int 0)) mNil))) (mCons (mTup (mCons (mC (.int 0)) (mCons (mC (.int 1)) mNil))) mNil))))
 (mSeq
 (mSet 4 (mLst mNil))
 (mSeq
 (mFor (mIter (mCall 2 F_parts_by (mCons (mVar 0) (mCons (mVar 1) mNil)))) (tgN 5) (mSeq
 (mPar 2 3 (mCons (mTup (mCons (mBin addD (mBin mulD (mVar 5) (mBin ixD (mVar 2) (mC (.int 0)))) (mBin ixD (mVar 3) (mC (.int 0)))) (mCons (mBin addD (mBin mulD (mVar 5) (mBin ixD (mVar 2) (mC (.int 1)))) (mBin ixD (mVar 3) (mC (.int 1)))) mNil))) (mCons (mVar 2) mNil)))
 (mDrop (mMeth 4 fAppend (mCons (mVar 2) mNil)))))
 (mRet (mVar 4))))))
noncomputable def F_near_ratios : List D → FR := runF nn_near_ratios.length M_near_ratios
theorem ok_near_ratios (T : Txt K mg g fd) : FnOk P w K mg base (L2.CX P w) 4 (g 11) (fd 11) ["n", "d"] (spP g K 2 F_near_ratios) := by
  refine fn_p (N := nn_near_ratios) (lv := 3) (m := M_near_ratios) T.f11 sc_near_ratios fun cdv A outer s H E hr => ?_
  have nd : (nn_near_ratios : List Str).Nodup := sc_near_ratios.nd
  have hu := hr.units
  have tk : Takes (cxOf (L2.CX P w) P w K mg base nn_near_ratios "near_ratios" (defScope (topS 11)) (g 11) cdv A outer s H E) (fun cls d _ H => E cls d H) := takes_of rfl rfl rfl rfl
  have po : PassesOwn (model P w) (cxOf (L2.CX P w) P w K mg base nn_near_ratios "near_ratios" (defScope (topS 11)) (g 11) cdv A outer s H E).A (cxOf (L2.CX P w) P w K mg base nn_near_ratios "near_ratios" (defScope (topS 11)) (g 11) cdv A outer s H E).env (cxOf (L2.CX P w) P w K mg base nn_near_ratios "near_ratios" (defScope (topS 11)) (g 11) cdv A outer s H E).xe := passes_of rfl
  exact (ds_cons
 (ds_expr (de_call (ok_check_ratio T) tk (hr.mono (by decide)) rfl T.m8 T.f8.kp T.b8 (da_cons (de_var (i := 0)) (da_cons (de_var (i := 1)) da_nil))))
 (ds_cons
 (ds_asg (de_tup (da_cons (de_tup (da_cons de_int (da_cons de_int da_nil))) (da_cons (de_tup (da_cons de_int (da_cons de_int da_nil))) da_nil))) (dg_tup rfl (dgs_cons (dg_name 2 nd) (dgs_cons (dg_name 3 nd) dgs_nil))))
 (ds_cons
 (ds_set 4 nd (de_lst da_nil))
 (ds_cons
 (ds_for po rfl (di_seq (de_call (ok_parts_by T) tk (hr.mono (by decide)) rfl T.m9 T.f9.kp T.b9 (da_cons (de_var (i := 0)) (da_cons (de_var (i := 1)) da_nil)))) (dg_name 5 nd) (ds_cons
 (ds_par 2 3 rfl nd (da_cons (de_tup (da_cons (de_bin opD_add (de_bin opD_mul (de_var (i := 5)) (de_ix (de_var (i := 2)) de_int)) (de_ix (de_var (i := 3)) de_int)) (da_cons (de_bin opD_add (de_bin opD_mul (de_var (i := 5)) (de_ix (de_var (i := 2)) de_int)) (de_ix (de_var (i := 3)) de_int)) da_nil))) (da_cons (de_var (i := 2)) da_nil)))
 (ds_one (ds_expr (de_append 4 (da_cons (de_var (i := 2)) da_nil))))))
 (ds_one (ds_ret (de_var (i := 4))))))))
/-! ### _law_told -/
abbrev nn__law_told : List Str := ["which", "numbers", "n", "m", "a", "c", "d", "error"]
theorem sc__law_told : FnScope nn__law_told ["which", "numbers"] (defScope (topS 18)) := ⟨rfl, rfl, rfl, by decide +kernel, rfl, by decide +kernel, by decide +kernel⟩
noncomputable def M_law_told : DS → SRes :=
 (mTry 7 (fun c => if c = 2 then some true else none) (mSeq
 (mIfS (mTest (mBin eqD (mVar 0) (mC (.int 0)))) (mSeq
 (mAsg (tgT 4 (tgCons (tgN 2) (tgCons (tgN 3) (tgCons (tgN 4) (tgCons (tgN 5) tgNil))))) (mVar 1))
 (mRet (mCall 4 F_floor_sum (mCons (mVar 2) (mCons (mVar 3) (mCons (mVar 4) (mCons (mVar 5) mNil))))))) mSkip)
 (mSeq
 (mAsg (tgT 2 (tgCons (tgN 2) (tgCons (tgN 6) tgNil))) (mVar 1))
 (mRet (mCallV (fun n => if n = 10 then some (2, F_parts_of_ratio) else if n = 11 then some (2, F_near_ratios) else none) (mBin ixD (mLst (mCons (mC (.sym 10)) (mCons (mC (.sym 11)) mNil))) (mBin subD (mVar 0) (mC (.int 1)))) (mCons (mVar 2) (mCons (mVar 6) mNil)))))) (fun _ τ => .ok (.dat (.str "not right")) τ))
noncomputable def F_law_told : List D → FR := runF nn__law_told.length M_law_told
theorem ok_law_told (T : Txt K mg g fd) : FnOk P w K mg base (L2.CX P w) 5 (g 18) (fd 18) ["which", "numbers"] (spP g K 2 F_law_told) := by
  refine fn_p (N := nn__law_told) (lv := 4) (m := M_law_told) T.f18 sc__law_told fun cdv A outer s H E hr => ?_
  have nd : (nn__law_told : List Str).Nodup := sc__law_told.nd
  have hu := hr.units
  have tk : Takes (cxOf (L2.CX P w) P w K mg base nn__law_told "_law_told" (defScope (topS 18)) (g 18) cdv A outer s H E) (fun cls d _ H => E cls d H) := takes_of rfl rfl rfl rfl
  have po : PassesOwn (model P w) (cxOf (L2.CX P w) P w K mg base nn__law_told "_law_told" (defScope (topS 18)) (g 18) cdv A outer s H E).A (cxOf (L2.CX P w) P w K mg base nn__law_told "_law_told" (defScope (topS 18)) (g 18) cdv A outer s H E).env (cxOf (L2.CX P w) P w K mg base nn__law_told "_law_told" (defScope (topS 18)) (g 18) cdv A outer s H E).xe := passes_of rfl
  exact (ds_one (ds_try (i := 7) (cs := fun c => if c = 2 then some true else none) (ms := fun _ τ => .ok (.dat (.str "not right")) τ) rfl rfl nd ⟨rfl, by decide, .inl T.m1⟩ tk (fun c b h => by (try dsimp only at h); (split at h; (rename_i hh; subst hh; (try dsimp only at h); cases h; exact T.e2_1); cases h)) (fun W pn xe tk2 po2 => (ds_cons
 (ds_if (dt_cmp (opD_eq hu) (de_var (i := 0)) de_int) (ds_cons
 (ds_asg (de_var (i := 1)) (dg_tup rfl (dgs_cons (dg_name 2 nd) (dgs_cons (dg_name 3 nd) (dgs_cons (dg_name 4 nd) (dgs_cons (dg_name 5 nd) dgs_nil))))))
 (ds_one (ds_ret (de_call (ok_floor_sum T) tk2 (hr.mono (by decide)) rfl T.m7 T.f7.kp T.b7 (da_cons (de_var (i := 2)) (da_cons (de_var (i := 3)) (da_cons (de_var (i := 4)) (da_cons (de_var (i := 5)) da_nil)))))))) ds_nil)
 (ds_cons
 (ds_asg (de_var (i := 1)) (dg_tup rfl (dgs_cons (dg_name 2 nd) (dgs_cons (dg_name 6 nd) dgs_nil))))
 (ds_one (ds_ret (de_callV (T := fun n => if n = 10 then some (2, F_parts_of_ratio) else if n = 11 then some (2, F_near_ratios) else none) (fun n ar F h => by (try dsimp only at h); (split at h; (rename_i hh; subst hh; (try dsimp only at h); cases h; exact ⟨_, _, _, (ok_parts_of_ratio T), (hr.mono (by decide)), T.f10.kp, T.b10⟩); split at h; (rename_i hh; subst hh; (try dsimp only at h); cases h; exact ⟨_, _, _, (ok_near_ratios T), (hr.mono (by decide)), T.f11.kp, T.b11⟩); cases h)) tk2 (de_ix (de_lst (da_cons (de_sym (n := 10) rfl T.m10) (da_cons (de_sym (n := 11) rfl T.m11) da_nil))) (de_bin opD_sub (de_var (i := 0)) de_int)) (da_cons (de_var (i := 2)) (da_cons (de_var (i := 6)) da_nil)))))))) (fun c a oe pn h hz hfv => by (try dsimp only at h); (split at h; (rename_i hh; subst hh; (try dsimp only at h); exact suite_flag (X := cxOf (L2.CX P w) P w K mg base nn__law_told "_law_told" (defScope (topS 18)) (g 18) cdv A outer s H E) (b := true) T.xc2 hz hfv T.k2_2 (by rfl) T.z_int (by rfl) T.z_isinstance (by rfl) T.m2 (by rfl) (by rfl) (by exact Or.inl rfl) (by rfl) (by rfl)); cases h))))
/-! ### _law_same -/
abbrev nn__law_same : List Str := ["told", "due", "key", "k"]
theorem sc__law_same : FnScope nn__law_same ["told", "due"] (defScope (topS 17)) := ⟨rfl, rfl, rfl, by decide +kernel, rfl, by decide +kernel, by decide +kernel⟩
noncomputable def M_law_same (Frec : List D → FR) : DS → SRes :=
 (mSeq
 (mIfS (mTest (mIsi "dict" (mVar 1))) mNever mSkip)
 (mSeq
 (mIfS (mOrT (mTest (mIsi "tuple" (mVar 1))) (mTest (mIsi "list" (mVar 1)))) (mSeq
 (mIfS (mOrT (mTest (mBin neD (mIsi "tuple" (mVar 1)) (mIsi "tuple" (mVar 0)))) (mTest (mBin neD (mIsi "list" (mVar 1)) (mIsi "list" (mVar 0))))) (mRet (mC (.bl false))) mSkip)
 (mRet (mAnd (mBin eqD (mCB lenD (mCons (mVar 0) mNil)) (mCB lenD (mCons (mVar 1) mNil))) (mCB allD (mCons (mLc (mFast (mCons (mCB lenD (mCons (mVar 1) mNil)) mNil) rng1) [3] (tgN 3) mYes (mCall 2 Frec (mCons (mBin ixD (mVar 0) (mVar 3)) (mCons (mBin ixD (mVar 1) (mVar 3)) mNil)))) mNil))))) mSkip)
 (mSeq
 (mIfS (mTest (mIsNone (mVar 1))) (mRet (mIsNone (mVar 0))) mSkip)
 (mSeq
 (mIfS (mTest (mBin neD (mIsi "bool" (mVar 1)) (mIsi "bool" (mVar 0)))) (mRet (mC (.bl false))) mSkip)
 (mSeq
 (mIfS (mOrT (mTest (mBin neD (mIsi "int" (mVar 1)) (mIsi "int" (mVar 0)))) (mTest (mBin neD (mIsi "str" (mVar 1)) (mIsi "str" (mVar 0))))) (mRet (mC (.bl false))) mSkip)
 (mRet (mBin eqD (mVar 0) (mVar 1))))))))
noncomputable def F_law_same : Nat → List D → FR
  | 0 => runF nn__law_same.length mNever
  | d + 1 => runF nn__law_same.length (M_law_same (F_law_same d))
theorem ok_law_same (T : Txt K mg g fd) : ∀ d, FnOk P w K mg base (L2.CX P w) (1 + d) (g 17) (fd 17) ["told", "due"] (spP g K 2 (F_law_same d)) := by
  intro d
  induction d with
  | zero => exact fn_p (N := nn__law_same) (lv := 0) T.f17 sc__law_same fun cdv A outer s H E hr => dss_never
  | succ d ih =>
  show FnOk P w K mg base (L2.CX P w) (1 + d + 1) (g 17) (fd 17) ["told", "due"] (spP g K 2 (runF nn__law_same.length (M_law_same (F_law_same d))))
  generalize F_law_same d = Frec at ih ⊢
  refine fn_p (N := nn__law_same) (lv := 1 + d) (m := M_law_same Frec) T.f17 sc__law_same fun cdv A outer s H E hr => ?_
  have nd : (nn__law_same : List Str).Nodup := sc__law_same.nd
  have hu := hr.units
  have tk : Takes (cxOf (L2.CX P w) P w K mg base nn__law_same "_law_same" (defScope (topS 17)) (g 17) cdv A outer s H E) (fun cls d _ H => E cls d H) := takes_of rfl rfl rfl rfl
  have po : PassesOwn (model P w) (cxOf (L2.CX P w) P w K mg base nn__law_same "_law_same" (defScope (topS 17)) (g 17) cdv A outer s H E).A (cxOf (L2.CX P w) P w K mg base nn__law_same "_law_same" (defScope (topS 17)) (g 17) cdv A outer s H E).env (cxOf (L2.CX P w) P w K mg base nn__law_same "_law_same" (defScope (topS 17)) (g 17) cdv A outer s H E).xe := passes_of rfl
  exact (ds_cons
 (ds_if (dt_val (de_isi "dict" rfl T.z_isinstance rfl T.z_dict bt_dict (de_var (i := 1)))) dss_never ds_nil)
 (ds_cons
 (ds_if (dt_w (dw_or (dt_val (de_isi "tuple" rfl T.z_isinstance rfl T.z_tuple bt_tuple (de_var (i := 1)))) (dw_or1 (dt_val (de_isi "list" rfl T.z_isinstance rfl T.z_list bt_list (de_var (i := 1))))))) (ds_cons
 (ds_if (dt_w (dw_or (dt_cmp (opD_ne hu) (de_isi "tuple" rfl T.z_isinstance rfl T.z_tuple bt_tuple (de_var (i := 1))) (de_isi "tuple" rfl T.z_isinstance rfl T.z_tuple bt_tuple (de_var (i := 0)))) (dw_or1 (dt_cmp (opD_ne hu) (de_isi "list" rfl T.z_isinstance rfl T.z_list bt_list (de_var (i := 1))) (de_isi "list" rfl T.z_isinstance rfl T.z_list bt_list (de_var (i := 0))))))) (ds_one (ds_ret de_bl)) ds_nil)
 (ds_one (ds_ret (de_and (de_cmp (opD_eq hu) (de_callBi callD_len rfl T.z_len bt_len (da_cons (de_var (i := 0)) da_nil)) (de_callBi callD_len rfl T.z_len bt_len (da_cons (de_var (i := 1)) da_nil))) (de_one (de_callBi (callD_all rfl) rfl T.z_all bt_all (da_cons (de_lc (own := [("k", 3)]) rfl nd (di_range1 rfl T.z_range (da_cons (de_callBi callD_len rfl T.z_len bt_len (da_cons (de_var (i := 1)) da_nil)) da_nil)) (blkOk_by (N := nn__law_same) (sc := defScope (topS 17)) (by decide +kernel)) (fun _ _ _ _ _ => (dg_name 3 nd)) (fun _ _ _ _ _ => dts_nil) (fun _ _ _ _ _ => (de_call ih takes0 (hr.mono (Nat.le_refl _)) rfl T.m17 T.f17.kp T.b17 (da_cons (de_ix (de_var (i := 0)) (de_var (i := 3))) (da_cons (de_ix (de_var (i := 1)) (de_var (i := 3))) da_nil))))) da_nil))))))) ds_nil)
 (ds_cons
 (ds_if (dt_isNone (de_var (i := 1))) (ds_one (ds_ret (de_isNone (de_var (i := 0))))) ds_nil)
 (ds_cons
 (ds_if (dt_cmp (opD_ne hu) (de_isi "bool" rfl T.z_isinstance rfl T.z_bool bt_bool (de_var (i := 1))) (de_isi "bool" rfl T.z_isinstance rfl T.z_bool bt_bool (de_var (i := 0)))) (ds_one (ds_ret de_bl)) ds_nil)
 (ds_cons
 (ds_if (dt_w (dw_or (dt_cmp (opD_ne hu) (de_isi "int" rfl T.z_isinstance rfl T.z_int bt_int (de_var (i := 1))) (de_isi "int" rfl T.z_isinstance rfl T.z_int bt_int (de_var (i := 0)))) (dw_or1 (dt_cmp (opD_ne hu) (de_isi "str" rfl T.z_isinstance rfl T.z_str bt_str (de_var (i := 1))) (de_isi "str" rfl T.z_isinstance rfl T.z_str bt_str (de_var (i := 0))))))) (ds_one (ds_ret de_bl)) ds_nil)
 (ds_one (ds_ret (de_cmp (opD_eq hu) (de_var (i := 0)) (de_var (i := 1))))))))))
/-! ### _law_share -/
abbrev nn__law_share : List Str := ["a", "b", "one", "other"]
theorem sc__law_share : FnScope nn__law_share ["a", "b"] (defScope (topS 20)) := ⟨rfl, rfl, rfl, by decide +kernel, rfl, by decide +kernel, by decide +kernel⟩
noncomputable def M_law_share : DS → SRes :=
 (mSeq
 (mPar 2 3 (mCons (mCB absD (mCons (mVar 0) mNil)) (mCons (mCB absD (mCons (mVar 1) mNil)) mNil)))
 (mSeq
 (mWhile (mTest (mBin gtD (mVar 3) (mC (.int 0)))) (mPar 2 3 (mCons (mVar 3) (mCons (mBin modD (mCB int1D (mCons (mVar 2) mNil)) (mVar 3)) mNil))))
 (mRet (mVar 2))))
noncomputable def F_law_share : List D → FR := runF nn__law_share.length M_law_share
theorem ok_law_share (T : Txt K mg g fd) : FnOk P w K mg base (L2.CX P w) 1 (g 20) (fd 20) ["a", "b"] (spP g K 2 F_law_share) := by
  refine fn_p (N := nn__law_share) (lv := 0) (m := M_law_share) T.f20 sc__law_share fun cdv A outer s H E hr => ?_
  have nd : (nn__law_share : List Str).Nodup := sc__law_share.nd
  have hu := hr.units
  have tk : Takes (cxOf (L2.CX P w) P w K mg base nn__law_share "_law_share" (defScope (topS 20)) (g 20) cdv A outer s H E) (fun cls d _ H => E cls d H) := takes_of rfl rfl rfl rfl
  have po : PassesOwn (model P w) (cxOf (L2.CX P w) P w K mg base nn__law_share "_law_share" (defScope (topS 20)) (g 20) cdv A outer s H E).A (cxOf (L2.CX P w) P w K mg base nn__law_share "_law_share" (defScope (topS 20)) (g 20) cdv A outer s H E).env (cxOf (L2.CX P w) P w K mg base nn__law_share "_law_share" (defScope (topS 20)) (g 20) cdv A outer s H E).xe := passes_of rfl
  exact (ds_cons
 (ds_par 2 3 rfl nd (da_cons (de_callBi callD_abs rfl T.z_abs bt_abs (da_cons (de_var (i := 0)) da_nil)) (da_cons (de_callBi callD_abs rfl T.z_abs bt_abs (da_cons (de_var (i := 1)) da_nil)) da_nil)))
 (ds_cons
 (ds_while po (dt_cmp opD_gt (de_var (i := 3)) de_int) (ds_one (ds_par 2 3 rfl nd (da_cons (de_var (i := 3)) (da_cons (de_bin opD_mod (de_callTy callD_int rfl T.z_int bt_int (da_cons (de_var (i := 2)) da_nil)) (de_var (i := 3))) da_nil)))))
 (ds_one (ds_ret (de_var (i := 2))))))
/-! ### _law_put -/
abbrev nn__law_put : List Str := ["parts", "n", "d", "part"]
theorem sc__law_put : FnScope nn__law_put ["parts"] (defScope (topS 21)) := ⟨rfl, rfl, rfl, by decide +kernel, rfl, by decide +kernel, by decide +kernel⟩
noncomputable def M_law_put : DS → SRes :=
 (mSeq
 (mPar 1 2 (mCons (mBin ixD (mVar 0) (mUn negD (mC (.int 1)))) (mCons (mC (.int 1)) mNil)))
 (mSeq
 (mFor (mIter (mRevSl (mSl (mVar 0) mNone (mSome (mUn negD (mC (.int 1))))))) (tgN 3) (mPar 1 2 (mCons (mBin addD (mBin mulD (mVar 3) (mVar 1)) (mVar 2)) (mCons (mVar 1) mNil))))
 (mRet (mTup (mCons (mVar 1) (mCons (mVar 2) mNil))))))
noncomputable def F_law_put : List D → FR := runF nn__law_put.length M_law_put
theorem ok_law_put (T : Txt K mg g fd) : FnOk P w K mg base (L2.CX P w) 1 (g 21) (fd 21) ["parts"] (spP g K 1 F_law_put) := by
  refine fn_p (N := nn__law_put) (lv := 0) (m := M_law_put) T.f21 sc__law_put fun cdv A outer s H E hr => ?_
  have nd : (nn__law_put : List Str).Nodup := sc__law_put.nd
  have hu := hr.units
  have tk : Takes (cxOf (L2.CX P w) P w K mg base nn__law_put "_law_put" (defScope (topS 21)) (g 21) cdv A outer s H E) (fun cls d _ H => E cls d H) := takes_of rfl rfl rfl rfl
  have po : PassesOwn (model P w) (cxOf (L2.CX P w) P w K mg base nn__law_put "_law_put" (defScope (topS 21)) (g 21) cdv A outer s H E).A (cxOf (L2.CX P w) P w K mg base nn__law_put "_law_put" (defScope (topS 21)) (g 21) cdv A outer s H E).env (cxOf (L2.CX P w) P w K mg base nn__law_put "_law_put" (defScope (topS 21)) (g 21) cdv A outer s H E).xe := passes_of rfl
  exact (ds_cons
 (ds_par 1 2 rfl nd (da_cons (de_ix (de_var (i := 0)) (de_un unD_neg de_int)) (da_cons de_int da_nil)))
 (ds_cons
 (ds_for po rfl (di_seq (de_revSl (de_slice (de_var (i := 0)) do_none (do_some (de_un unD_neg de_int))))) (dg_name 3 nd) (ds_one (ds_par 1 2 rfl nd (da_cons (de_bin opD_add (de_bin opD_mul (de_var (i := 3)) (de_var (i := 1))) (de_var (i := 2))) (da_cons (de_var (i := 1)) da_nil)))))
 (ds_one (ds_ret (de_tup (da_cons (de_var (i := 1)) (da_cons (de_var (i := 2)) da_nil)))))))
/-! ### _law_is_nearer -/
abbrev nn__law_is_nearer : List Str := ["n", "d", "one", "other", "p", "q", "r", "s"]
theorem sc__law_is_nearer : FnScope nn__law_is_nearer ["n", "d", "one", "other"] (defScope (topS 22)) := ⟨rfl, rfl, rfl, by decide +kernel, rfl, by decide +kernel, by decide +kernel⟩
noncomputable def M_law_is_nearer : DS → SRes :=
 (mSeq
 (mAsg (tgT 2 (tgCons (tgT 2 (tgCons (tgN 4) (tgCons (tgN 5) tgNil))) (tgCons (tgT 2 (tgCons (tgN 6) (tgCons (tgN 7) tgNil))) tgNil))) (mTup (mCons (mVar 2) (mCons (mVar 3) mNil))))
 (mRet (mBin ltD (mBin mulD (mCB absD (mCons (mBin subD (mBin mulD (mVar 4) (mVar 1)) (mBin mulD (mVar 0) (mVar 5))) mNil)) (mVar 7)) (mBin mulD (mCB absD (mCons (mBin subD (mBin mulD (mVar 6) (mVar 1)) (mBin mulD (mVar 0) (mVar 7))) mNil)) (mVar 5)))))
noncomputable def F_law_is_nearer : List D → FR := runF nn__law_is_nearer.length M_law_is_nearer
theorem ok_law_is_nearer (T : Txt K mg g fd) : FnOk P w K mg base (L2.CX P w) 1 (g 22) (fd 22) ["n", "d", "one", "other"] (spP g K 4 F_law_is_nearer) := by
  refine fn_p (N := nn__law_is_nearer) (lv := 0) (m := M_law_is_nearer) T.f22 sc__law_is_nearer fun cdv A outer s H E hr => ?_
  have nd : (nn__law_is_nearer : List Str).Nodup := sc__law_is_nearer.nd
  have hu := hr.units
  have tk : Takes (cxOf (L2.CX P w) P w K mg base nn__law_is_nearer "_law_is_nearer" (defScope (topS 22)) (g 22) cdv A outer s H E) (fun cls d _ H => E cls d H) := takes_of rfl rfl rfl rfl
  have po : PassesOwn (model P w) (cxOf (L2.CX P w) P w K mg base nn__law_is_nearer "_law_is_nearer" (defScope (topS 22)) (g 22) cdv A outer s H E).A (cxOf (L2.CX P w) P w K mg base nn__law_is_nearer "_law_is_nearer" (defScope (topS 22)) (g 22) cdv A outer s H E).env (cxOf (L2.CX P w) P w K mg base nn__law_is_nearer "_law_is_nearer" (defScope (topS 22)) (g 22) cdv A outer s H E).xe := passes_of rfl
  exact (ds_cons
 (ds_asg (de_tup (da_cons (de_var (i := 2)) (da_cons (de_var (i := 3)) da_nil))) (dg_tup rfl (dgs_cons (dg_tup rfl (dgs_cons (dg_name 4 nd) (dgs_cons (dg_name 5 nd) dgs_nil))) (dgs_cons (dg_tup rfl (dgs_cons (dg_name 6 nd) (dgs_cons (dg_name 7 nd) dgs_nil))) dgs_nil))))
 (ds_one (ds_ret (de_cmp (opD_lt hu) (de_bin opD_mul (de_callBi callD_abs rfl T.z_abs bt_abs (da_cons (de_bin opD_sub (de_bin opD_mul (de_var (i := 4)) (de_var (i := 1))) (de_bin opD_mul (de_var (i := 0)) (de_var (i := 5)))) da_nil)) (de_var (i := 7))) (de_bin opD_mul (de_callBi callD_abs rfl T.z_abs bt_abs (da_cons (de_bin opD_sub (de_bin opD_mul (de_var (i := 6)) (de_var (i := 1))) (de_bin opD_mul (de_var (i := 0)) (de_var (i := 7)))) da_nil)) (de_var (i := 5)))))))
/-! ### _law_are_ratios_due -/
abbrev nn__law_are_ratios_due : List Str := ["draws", "n", "d", "parts", "near", "common", "k", "p", "q", "s", "r", "part", "pair"]
theorem sc__law_are_ratios_due : FnScope nn__law_are_ratios_due ["draws", "n", "d"] (defScope (topS 23)) := ⟨rfl, rfl, rfl, by decide +kernel, rfl, by decide +kernel, by decide +kernel⟩
noncomputable def M_law_are_ratios_due : DS → SRes :=
 (mSeq
 (mAsg (tgT 2 (tgCons (tgN 3) (tgCons (tgN 4) tgNil))) (mTup (mCons (mCall 2 F_law_told (mCons (mC (.int 1)) (mCons (mTup (mCons (mVar 1) (mCons (mVar 2) mNil))) mNil))) (mCons (mCall 2 F_law_told (mCons (mC (.int 2)) (mCons (mTup (mCons (mVar 1) (mCons (mVar 2) mNil))) mNil))) mNil))))
 (mSeq
 (mSet 5 (mCall 2 F_law_share (mCons (mVar 1) (mCons (mVar 2) mNil))))
 (mSeq
 (mIfS (mOrT (mNotT (mTest (mIsi "list" (mVar 3)))) (mOrT (mNotT (mTest (mIsi "list" (mVar 4)))) (mTest (mBin neD (mLc (mIter (mVar 3)) [11] (tgN 11) (mOrT (mTest (mIsi "bool" (mVar 11))) (mNotT (mTest (mIsi "int" (mVar 11))))) (mVar 11)) (mLst mNil))))) (mRet (mC (.bl false))) mSkip)
 (mSeq
 (mIfS (mOrT (mTest (mBin ltD (mBin ixD (mVar 3) (mC (.int 0))) (mC (.int 0)))) (mOrT (mTest (mBin neD (mLc (mIter (mSl (mVar 3) (mSome (mC (.int 1))) mNone)) [11] (tgN 11) (mTest (mBin ltD (mVar 11) (mC (.int 1)))) (mVar 11)) (mLst mNil))) (mAndT (mTest (mBin gtD (mCB lenD (mCons (mVar 3) mNil)) (mC (.int 1)))) (mTest (mBin ltD (mBin ixD (mVar 3) (mUn negD (mC (.int 1)))) (mC (.int 2))))))) (mRet (mC (.bl false))) mSkip)
 (mSeq
 (mIfS (mOrT (mTest (mBin neD (mCall 1 F_law_put (mCons (mVar 3) mNil)) (mTup (mCons (mBin fdivD (mVar 1) (mVar 5)) (mCons (mBin fdivD (mVar 2) (mVar 5)) mNil))))) (mNotT (mTest (mCall 2 (F_law_same 6) (mCons (mVar 4) (mCons (mLc (mFast (mCons (mCB lenD (mCons (mVar 3) mNil)) mNil) rng1) [6] (tgN 6) mYes (mCall 1 F_law_put (mCons (mSl (mVar 3) mNone (mSome (mBin addD (mVar 6) (mC (.int 1))))) mNil))) mNil)))))) (mRet (mC (.bl false))) mSkip)
 (mSeq
 (mFor (mFast (mCons (mC (.int 1)) (mCons (mCB lenD (mCons (mVar 4) mNil)) mNil)) rng2) (tgN 6) (mIfS (mTest (mBin neD (mCB absD (mCons (mBin subD (mBin mulD (mBin ixD (mBin ixD (mVar 4) (mVar 6)) (mC (.int 0))) (mBin ixD (mBin ixD (mVar 4) (mBin subD (mVar 6) (mC (.int 1)))) (mC (.int 1)))) (mBin mulD (mBin ixD (mBin ixD (mVar 4) (mBin subD (mVar 6) (mC (.int 1)))) (mC (.int 0))) (mBin ixD (mBin ixD (mVar 4) (mVar 6)) (mC (.int 1))))) mNil)) (mC (.int 1)))) (mRet (mC (.bl false))) mSkip))
 (mSeq
 (mFor (mIter (mLc (mIter (mVar 4)) [12] (tgN 12) (mTest (mBin ltD (mBin ixD (mVar 12) (mC (.int 1))) (mC (.int 40)))) (mVar 12))) (tgT 2 (tgCons (tgN 7) (tgCons (tgN 8) tgNil))) (mFor (mFast (mCons (mC (.int 1)) (mCons (mVar 8) mNil)) rng2) (tgN 9) (mFor (mIter (mLst (mCons (mBin fdivD (mBin mulD (mVar 1) (mVar 9)) (mVar 2)) (mCons (mBin addD (mBin fdivD (mBin mulD (mVar 1) (mVar 9)) (mVar 2)) (mC (.int 1))) mNil)))) (tgN 10) (mIfS (mNotT (mTest (mCall 4 F_law_is_nearer (mCons (mVar 1) (mCons (mVar 2) (mCons (mTup (mCons (mVar 7) (mCons (mVar 8) mNil))) (mCons (mTup (mCons (mVar 10) (mCons (mVar 9) mNil))) mNil))))))) (mRet (mC (.bl false))) mSkip))))
 (mRet (mC (.bl true))))))))))
noncomputable def F_law_are_ratios_due : Cn → List D → FB := runB nn__law_are_ratios_due.length M_law_are_ratios_due
theorem ok_law_are_ratios_due (T : Txt K mg g fd) : FnOk P w K mg base (L2.CX P w) 8 (g 23) (fd 23) ["draws", "n", "d"] (spB g K 3 F_law_are_ratios_due) := by
  refine fn_b (N := nn__law_are_ratios_due) (lv := 7) (m := M_law_are_ratios_due) T.f23 sc__law_are_ratios_due fun cdv A outer s H E hr => ?_
  have nd : (nn__law_are_ratios_due : List Str).Nodup := sc__law_are_ratios_due.nd
  have hu := hr.units
  have tk : Takes (cxOf (L2.CX P w) P w K mg base nn__law_are_ratios_due "_law_are_ratios_due" (defScope (topS 23)) (g 23) cdv A outer s H E) (fun cls d _ H => E cls d H) := takes_of rfl rfl rfl rfl
  have po : PassesOwn (model P w) (cxOf (L2.CX P w) P w K mg base nn__law_are_ratios_due "_law_are_ratios_due" (defScope (topS 23)) (g 23) cdv A outer s H E).A (cxOf (L2.CX P w) P w K mg base nn__law_are_ratios_due "_law_are_ratios_due" (defScope (topS 23)) (g 23) cdv A outer s H E).env (cxOf (L2.CX P w) P w K mg base nn__law_are_ratios_due "_law_are_ratios_due" (defScope (topS 23)) (g 23) cdv A outer s H E).xe := passes_of rfl
  exact (ds_cons
 (ds_asg (de_tup (da_cons (de_call (ok_law_told T) tk (hr.mono (by decide)) rfl T.m18 T.f18.kp T.b18 (da_cons de_int (da_cons (de_tup (da_cons (de_var (i := 1)) (da_cons (de_var (i := 2)) da_nil))) da_nil))) (da_cons (de_call (ok_law_told T) tk (hr.mono (by decide)) rfl T.m18 T.f18.kp T.b18 (da_cons de_int (da_cons (de_tup (da_cons (de_var (i := 1)) (da_cons (de_var (i := 2)) da_nil))) da_nil))) da_nil))) (dg_tup rfl (dgs_cons (dg_name 3 nd) (dgs_cons (dg_name 4 nd) dgs_nil))))
 (ds_cons
 (ds_set 5 nd (de_call (ok_law_share T) tk (hr.mono (by decide)) rfl T.m20 T.f20.kp T.b20 (da_cons (de_var (i := 1)) (da_cons (de_var (i := 2)) da_nil))))
 (ds_cons
 (ds_if (dt_w (dw_or (dt_not (dt_val (de_isi "list" rfl T.z_isinstance rfl T.z_list bt_list (de_var (i := 3))))) (dw_or (dt_not (dt_val (de_isi "list" rfl T.z_isinstance rfl T.z_list bt_list (de_var (i := 4))))) (dw_or1 (dt_cmp (opD_ne hu) (de_lc (own := [("part", 11)]) rfl nd (di_seq (de_var (i := 3))) (blkOk_by (N := nn__law_are_ratios_due) (sc := defScope (topS 23)) (by decide +kernel)) (fun _ _ _ _ _ => (dg_name 11 nd)) (fun _ _ _ _ _ => (dts_one (dt_w (dw_or (dt_val (de_isi "bool" rfl T.z_isinstance rfl T.z_bool bt_bool (de_var (i := 11)))) (dw_or1 (dt_not (dt_val (de_isi "int" rfl T.z_isinstance rfl T.z_int bt_int (de_var (i := 11)))))))))) (fun _ _ _ _ _ => (de_var (i := 11)))) (de_lst da_nil)))))) (ds_one (ds_ret de_bl)) ds_nil)
 (ds_cons
 (ds_if (dt_w (dw_or (dt_cmp (opD_lt hu) (de_ix (de_var (i := 3)) de_int) de_int) (dw_or (dt_cmp (opD_ne hu) (de_lc (own := [("part", 11)]) rfl nd (di_seq (de_slice (de_var (i := 3)) (do_some de_int) do_none)) (blkOk_by (N := nn__law_are_ratios_due) (sc := defScope (topS 23)) (by decide +kernel)) (fun _ _ _ _ _ => (dg_name 11 nd)) (fun _ _ _ _ _ => (dts_one (dt_cmp (opD_lt hu) (de_var (i := 11)) de_int))) (fun _ _ _ _ _ => (de_var (i := 11)))) (de_lst da_nil)) (dw_or1 (dt_w (dw_and (dt_cmp opD_gt (de_callBi callD_len rfl T.z_len bt_len (da_cons (de_var (i := 3)) da_nil)) de_int) (dw_and1 (dt_cmp (opD_lt hu) (de_ix (de_var (i := 3)) (de_un unD_neg de_int)) de_int)))))))) (ds_one (ds_ret de_bl)) ds_nil)
 (ds_cons
 (ds_if (dt_w (dw_or (dt_cmp (opD_ne hu) (de_call (ok_law_put T) tk (hr.mono (by decide)) rfl T.m21 T.f21.kp T.b21 (da_cons (de_var (i := 3)) da_nil)) (de_tup (da_cons (de_bin opD_fdiv (de_var (i := 1)) (de_var (i := 5))) (da_cons (de_bin opD_fdiv (de_var (i := 2)) (de_var (i := 5))) da_nil)))) (dw_or1 (dt_not (dt_val (de_call (ok_law_same T 6) tk (hr.mono (by decide)) rfl T.m17 T.f17.kp T.b17 (da_cons (de_var (i := 4)) (da_cons (de_lc (own := [("k", 6)]) rfl nd (di_range1 rfl T.z_range (da_cons (de_callBi callD_len rfl T.z_len bt_len (da_cons (de_var (i := 3)) da_nil)) da_nil)) (blkOk_by (N := nn__law_are_ratios_due) (sc := defScope (topS 23)) (by decide +kernel)) (fun _ _ _ _ _ => (dg_name 6 nd)) (fun _ _ _ _ _ => dts_nil) (fun _ _ _ _ _ => (de_call (ok_law_put T) takes0 (hr.mono (by decide)) rfl T.m21 T.f21.kp T.b21 (da_cons (de_slice (de_var (i := 3)) do_none (do_some (de_bin opD_add (de_var (i := 6)) de_int))) da_nil)))) da_nil)))))))) (ds_one (ds_ret de_bl)) ds_nil)
 (ds_cons
 (ds_for po rfl (di_range2 rfl T.z_range (da_cons de_int (da_cons (de_callBi callD_len rfl T.z_len bt_len (da_cons (de_var (i := 4)) da_nil)) da_nil))) (dg_name 6 nd) (ds_one (ds_if (dt_cmp (opD_ne hu) (de_callBi callD_abs rfl T.z_abs bt_abs (da_cons (de_bin opD_sub (de_bin opD_mul (de_ix (de_ix (de_var (i := 4)) (de_var (i := 6))) de_int) (de_ix (de_ix (de_var (i := 4)) (de_bin opD_sub (de_var (i := 6)) de_int)) de_int)) (de_bin opD_mul (de_ix (de_ix (de_var (i := 4)) (de_bin opD_sub (de_var (i := 6)) de_int)) de_int) (de_ix (de_ix (de_var (i := 4)) (de_var (i := 6))) de_int))) da_nil)) de_int) (ds_one (ds_ret de_bl)) ds_nil)))
 (ds_cons
 (ds_for po rfl (di_seq (de_lc (own := [("pair", 12)]) rfl nd (di_seq (de_var (i := 4))) (blkOk_by (N := nn__law_are_ratios_due) (sc := defScope (topS 23)) (by decide +kernel)) (fun _ _ _ _ _ => (dg_name 12 nd)) (fun _ _ _ _ _ => (dts_one (dt_cmp (opD_lt hu) (de_ix (de_var (i := 12)) de_int) de_int))) (fun _ _ _ _ _ => (de_var (i := 12))))) (dg_tup rfl (dgs_cons (dg_name 7 nd) (dgs_cons (dg_name 8 nd) dgs_nil))) (ds_one (ds_for po rfl (di_range2 rfl T.z_range (da_cons de_int (da_cons (de_var (i := 8)) da_nil))) (dg_name 9 nd) (ds_one (ds_for po rfl (di_seq (de_lst (da_cons (de_bin opD_fdiv (de_bin opD_mul (de_var (i := 1)) (de_var (i := 9))) (de_var (i := 2))) (da_cons (de_bin opD_add (de_bin opD_fdiv (de_bin opD_mul (de_var (i := 1)) (de_var (i := 9))) (de_var (i := 2))) de_int) da_nil)))) (dg_name 10 nd) (ds_one (ds_if (dt_not (dt_val (de_call (ok_law_is_nearer T) tk (hr.mono (by decide)) rfl T.m22 T.f22.kp T.b22 (da_cons (de_var (i := 1)) (da_cons (de_var (i := 2)) (da_cons (de_tup (da_cons (de_var (i := 7)) (da_cons (de_var (i := 8)) da_nil))) (da_cons (de_tup (da_cons (de_var (i := 10)) (da_cons (de_var (i := 9)) da_nil))) da_nil))))))) (ds_one (ds_ret de_bl)) ds_nil)))))))
 (ds_one (ds_ret de_bl)))))))))
/-! ### _law_sum -/
abbrev nn__law_sum : List Str := ["n", "m", "a", "c", "i"]
theorem sc__law_sum : FnScope nn__law_sum ["n", "m", "a", "c"] (defScope (topS 19)) := ⟨rfl, rfl, rfl, by decide +kernel, rfl, by decide +kernel, by decide +kernel⟩
noncomputable def M_law_sum : DS → SRes :=
 (mRet (mCB sumD (mCons (mLc (mFast (mCons (mVar 0) mNil) rng1) [4] (tgN 4) mYes (mBin fdivD (mBin addD (mBin mulD (mVar 2) (mVar 4)) (mVar 3)) (mVar 1))) mNil)))
noncomputable def F_law_sum : List D → FR := runF nn__law_sum.length M_law_sum
theorem ok_law_sum (T : Txt K mg g fd) : FnOk P w K mg base (L2.CX P w) 1 (g 19) (fd 19) ["n", "m", "a", "c"] (spP g K 4 F_law_sum) := by
  refine fn_p (N := nn__law_sum) (lv := 0) (m := M_law_sum) T.f19 sc__law_sum fun cdv A outer s H E hr => ?_
  have nd : (nn__law_sum : List Str).Nodup := sc__law_sum.nd
  have hu := hr.units
  have tk : Takes (cxOf (L2.CX P w) P w K mg base nn__law_sum "_law_sum" (defScope (topS 19)) (g 19) cdv A outer s H E) (fun cls d _ H => E cls d H) := takes_of rfl rfl rfl rfl
  have po : PassesOwn (model P w) (cxOf (L2.CX P w) P w K mg base nn__law_sum "_law_sum" (defScope (topS 19)) (g 19) cdv A outer s H E).A (cxOf (L2.CX P w) P w K mg base nn__law_sum "_law_sum" (defScope (topS 19)) (g 19) cdv A outer s H E).env (cxOf (L2.CX P w) P w K mg base nn__law_sum "_law_sum" (defScope (topS 19)) (g 19) cdv A outer s H E).xe := passes_of rfl
  exact (ds_one (ds_ret (de_callBi (callD_sum rfl) rfl T.z_sum bt_sum (da_cons (de_lc (own := [("i", 4)]) rfl nd (di_range1 rfl T.z_range (da_cons (de_var (i := 0)) da_nil)) (blkOk_by (N := nn__law_sum) (sc := defScope (topS 19)) (by decide +kernel)) (fun _ _ _ _ _ => (dg_name 4 nd)) (fun _ _ _ _ _ => dts_nil) (fun _ _ _ _ _ => (de_bin opD_fdiv (de_bin opD_add (de_bin opD_mul (de_var (i := 2)) (de_var (i := 4))) (de_var (i := 3))) (de_var (i := 1))))) da_nil))))
/-! ### law -/
abbrev nn_law : List Str := ["script", "draws", "turn", "n", "m", "far", "a", "c", "k", "great", "whole", "part", "d", "one", "other", "wrong", "bad", "told"]
theorem sc_law : FnScope nn_law ["script"] (defScope (topS 24)) := ⟨rfl, rfl, rfl, by decide +kernel, rfl, by decide +kernel, by decide +kernel⟩
noncomputable def M_law : DS → SRes :=
 (mSeq
 (mSet 1 (mCall 1 F_law_draws (mCons (mVar 0) mNil)))
 (mSeq
 (mFor (mFast (mCons (mC (.int 6)) mNil) rng1) (tgN 2) (mSeq
 (mPar 3 4 (mCons (mCallB 2 F_law_take 1 (mCons (mCallB 2 F_law_pick 1 (mCons (mLst (mCons (mC (.int 2)) (mCons (mC (.int 9)) (mCons (mC (.int 40)) mNil)))) mNil)) mNil)) (mCons (mBin addD (mC (.int 1)) (mCallB 2 F_law_take 1 (mCons (mCallB 2 F_law_pick 1 (mCons (mLst (mCons (mC (.int 2)) (mCons (mC (.int 9)) (mCons (mC (.int 1000)) mNil)))) mNil)) mNil))) mNil)))
 (mSeq
 (mSet 5 (mCallB 2 F_law_pick 1 (mCons (mLst (mCons (mC (.int 3)) (mCons (mC (.int 30)) (mCons (mBin powD (mC (.int 10)) (mC (.int 6))) mNil)))) mNil)))
 (mSeq
 (mPar 6 7 (mCons (mBin subD (mCallB 2 F_law_take 1 (mCons (mBin addD (mBin mulD (mC (.int 2)) (mVar 5)) (mC (.int 1))) mNil)) (mVar 5)) (mCons (mBin subD (mCallB 2 F_law_take 1 (mCons (mBin addD (mBin mulD (mC (.int 2)) (mVar 5)) (mC (.int 1))) mNil)) (mVar 5)) mNil)))
 (mSeq
 (mIfS (mNotT (mTest (mCall 2 (F_law_same 6) (mCons (mCall 2 F_law_told (mCons (mC (.int 0)) (mCons (mTup (mCons (mVar 3) (mCons (mVar 4) (mCons (mVar 6) (mCons (mVar 7) mNil))))) mNil))) (mCons (mCall 4 F_law_sum (mCons (mVar 3) (mCons (mVar 4) (mCons (mVar 6) (mCons (mVar 7) mNil))))) mNil))))) (mRet (mC (.bl false))) mSkip)
 (mSeq
 (mSet 8 (mCallB 2 F_law_take 1 (mCons (mC (.int 20)) mNil)))
 (mIfS (mNotT (mTest (mCall 2 (F_law_same 6) (mCons (mCall 2 F_law_told (mCons (mC (.int 0)) (mCons (mTup (mCons (mBin addD (mVar 3) (mVar 8)) (mCons (mVar 4) (mCons (mVar 6) (mCons (mVar 7) mNil))))) mNil))) (mCons (mBin addD (mCall 4 F_law_sum (mCons (mVar 3) (mCons (mVar 4) (mCons (mVar 6) (mCons (mVar 7) mNil))))) (mCall 4 F_law_sum (mCons (mVar 8) (mCons (mVar 4) (mCons (mVar 6) (mCons (mBin addD (mVar 7) (mBin mulD (mVar 6) (mVar 3))) mNil)))))) mNil))))) (mRet (mC (.bl false))) mSkip)))))))
 (mSeq
 (mSet 9 (mCallB 2 F_law_pick 1 (mCons (mLst (mCons (mBin powD (mC (.int 10)) (mC (.int 6))) (mCons (mBin powD (mC (.int 10)) (mC (.int 12))) (mCons (mBin powD (mC (.int 10)) (mC (.int 18))) mNil)))) mNil)))
 (mSeq
 (mAsg (tgT 4 (tgCons (tgN 3) (tgCons (tgN 4) (tgCons (tgN 6) (tgCons (tgN 7) tgNil))))) (mTup (mCons (mBin addD (mVar 9) (mCallB 2 F_law_take 1 (mCons (mC (.int 997)) mNil))) (mCons (mBin addD (mBin addD (mC (.int 1)) (mBin fdivD (mVar 9) (mC (.int 7)))) (mCallB 2 F_law_take 1 (mCons (mC (.int 9973)) mNil))) (mCons (mBin addD (mBin fdivD (mVar 9) (mC (.int 3))) (mCallB 2 F_law_take 1 (mCons (mC (.int 997)) mNil))) (mCons (mCallB 2 F_law_take 1 (mCons (mBin powD (mC (.int 10)) (mC (.int 6))) mNil)) mNil))))))
 (mSeq
 (mPar 10 11 (mCons (mCall 2 F_law_told (mCons (mC (.int 0)) (mCons (mTup (mCons (mVar 3) (mCons (mVar 4) (mCons (mVar 6) (mCons (mVar 7) mNil))))) mNil))) (mCons (mCallB 2 F_law_pick 1 (mCons (mLst (mCons (mC (.int 1)) (mCons (mC (.int 1000)) (mCons (mBin fdivD (mVar 3) (mC (.int 2))) (mCons (mBin subD (mVar 3) (mC (.int 1))) mNil))))) mNil)) mNil)))
 (mSeq
 (mIfS (mTest (mBin neD (mVar 10) (mBin addD (mCall 2 F_law_told (mCons (mC (.int 0)) (mCons (mTup (mCons (mVar 11) (mCons (mVar 4) (mCons (mVar 6) (mCons (mVar 7) mNil))))) mNil))) (mCall 2 F_law_told (mCons (mC (.int 0)) (mCons (mTup (mCons (mBin subD (mVar 3) (mVar 11)) (mCons (mVar 4) (mCons (mVar 6) (mCons (mBin addD (mVar 7) (mBin mulD (mVar 6) (mVar 11))) mNil))))) mNil)))))) (mRet (mC (.bl false))) mSkip)
 (mSeq
 (mIfS (mNotT (mTest (mCall 2 (F_law_same 6) (mCons (mLst (mCons (mCall 2 F_law_told (mCons (mC (.int 0)) (mCons (mTup (mCons (mVar 3) (mCons (mVar 4) (mCons (mBin addD (mVar 6) (mVar 4)) (mCons (mVar 7) mNil))))) mNil))) (mCons (mCall 2 F_law_told (mCons (mC (.int 0)) (mCons (mTup (mCons (mVar 3) (mCons (mVar 4) (mCons (mVar 6) (mCons (mBin subD (mVar 7) (mVar 4)) mNil))))) mNil))) mNil))) (mCons (mLst (mCons (mBin addD (mVar 10) (mBin fdivD (mBin mulD (mVar 3) (mBin subD (mVar 3) (mC (.int 1)))) (mC (.int 2)))) (mCons (mBin subD (mVar 10) (mVar 3)) mNil))) mNil))))) (mRet (mC (.bl false))) mSkip)
 (mSeq
 (mIfS (mOrT (mTest (mBin neD (mCall 2 F_law_told (mCons (mC (.int 0)) (mCons (mTup (mCons (mVar 3) (mCons (mVar 4) (mCons (mUn negD (mVar 6)) (mCons (mBin addD (mVar 7) (mBin mulD (mVar 6) (mBin subD (mVar 3) (mC (.int 1))))) mNil))))) mNil))) (mVar 10))) (mTest (mBin neD (mCall 2 F_law_told (mCons (mC (.int 0)) (mCons (mTup (mCons (mVar 3) (mCons (mC (.int 1)) (mCons (mVar 6) (mCons (mVar 7) mNil))))) mNil))) (mBin addD (mBin mulD (mVar 6) (mBin fdivD (mBin mulD (mVar 3) (mBin subD (mVar 3) (mC (.int 1)))) (mC (.int 2)))) (mBin mulD (mVar 7) (mVar 3)))))) (mRet (mC (.bl false))) mSkip)
 (mSeq
 (mFor (mFast (mCons (mC (.int 4)) mNil) rng1) (tgN 2) (mSeq
 (mSet 5 (mCallB 2 F_law_pick 1 (mCons (mLst (mCons (mC (.int 5)) (mCons (mC (.int 60)) (mCons (mC (.int 1000)) (mCons (mBin powD (mC (.int 10)) (mC (.int 12))) mNil))))) mNil)))
 (mSeq
 (mPar 3 12 (mCons (mBin addD (mBin mulD (mCallB 2 F_law_take 1 (mCons (mVar 5) mNil)) (mCallB 2 F_law_pick 1 (mCons (mLst (mCons (mC (.int 0)) (mCons (mC (.int 1)) (mCons (mC (.int 1)) (mCons (mC (.int 7)) mNil))))) mNil))) (mCallB 2 F_law_pick 1 (mCons (mLst (mCons (mC (.int 0)) (mCons (mVar 5) mNil))) mNil))) (mCons (mBin addD (mC (.int 1)) (mCallB 2 F_law_take 1 (mCons (mVar 5) mNil))) mNil)))
 (mIfS (mNotT (mTest (mCallB 3 F_law_are_ratios_due 1 (mCons (mVar 3) (mCons (mVar 12) mNil))))) (mRet (mC (.bl false))) mSkip))))
 (mSeq
 (mAsg (tgT 2 (tgCons (tgN 13) (tgCons (tgN 14) tgNil))) (mTup (mCons (mC (.int 1)) (mCons (mC (.int 1)) mNil))))
 (mSeq
 (mFor (mFast (mCons (mCallB 2 F_law_take 1 (mCons (mC (.int 30)) mNil)) mNil) rng1) (tgN 2) (mPar 13 14 (mCons (mBin addD (mVar 13) (mVar 14)) (mCons (mVar 13) mNil))))
 (mSeq
 (mIfS (mOrT (mNotT (mTest (mCallB 3 F_law_are_ratios_due 1 (mCons (mVar 13) (mCons (mVar 14) mNil))))) (mNotT (mTest (mCallB 3 F_law_are_ratios_due 1 (mCons (mVar 14) (mCons (mVar 13) mNil)))))) (mRet (mC (.bl false))) mSkip)
 (mSeq
 (mSet 15 (mLst (mCons (mTup (mCons (mUn negD (mC (.int 1))) (mCons (mC (.int 1)) (mCons (mC (.int 1)) (mCons (mC (.int 1)) mNil))))) (mCons (mTup (mCons (mC (.int 1)) (mCons (mC (.int 0)) (mCons (mC (.int 1)) (mCons (mC (.int 1)) mNil))))) (mCons (mTup (mCons (mC (.int 1)) (mCons (mUn negD (mC (.int 1))) (mCons (mC (.int 1)) (mCons (mC (.int 1)) mNil))))) (mCons (mTup (mCons (mC (.bl true)) (mCons (mC (.int 1)) (mCons (mC (.int 1)) (mCons (mC (.int 1)) mNil))))) (mCons (mTup (mCons (mC (.int 1)) (mCons (mC (.int 1)) (mCons (mC .non) (mCons (mC (.int 1)) mNil))))) (mCons (mTup (mCons (mC (.int 1)) (mCons (mC (.int 1)) (mCons (mC (.int 1)) (mCons (mC (.str "1")) mNil))))) (mCons (mTup (mCons (mC (.int 1)) (mCons (mC (.bl true)) (mCons (mC (.int 1)) (mCons (mC (.int 1)) mNil))))) mNil)))))))))
 (mSeq
 (mSet 16 (mLst (mCons (mTup (mCons (mUn negD (mC (.int 1))) (mCons (mC (.int 1)) mNil))) (mCons (mTup (mCons (mC (.int 1)) (mCons (mC (.int 0)) mNil))) (mCons (mTup (mCons (mC (.int 1)) (mCons (mUn negD (mC (.int 1))) mNil))) (mCons (mTup (mCons (mC (.bl true)) (mCons (mC (.int 1)) mNil))) (mCons (mTup (mCons (mC (.int 1)) (mCons (mC .non) mNil))) (mCons (mTup (mCons (mC (.str "1")) (mCons (mC (.int 1)) mNil))) mNil))))))))
 (mSeq
 (mSet 17 (mBin addD (mBin addD (mLc (mIter (mVar 15)) [13] (tgN 13) mYes (mCall 2 F_law_told (mCons (mC (.int 0)) (mCons (mVar 13) mNil)))) (mLc (mIter (mVar 16)) [13] (tgN 13) mYes (mCall 2 F_law_told (mCons (mC (.int 1)) (mCons (mVar 13) mNil))))) (mLc (mIter (mVar 16)) [13] (tgN 13) mYes (mCall 2 F_law_told (mCons (mC (.int 2)) (mCons (mVar 13) mNil))))))
 (mRet (mBin eqD (mVar 17) (mBin mulD (mLst (mCons (mC (.str "not right")) mNil)) (mC (.int 19))))))))))))))))))))
noncomputable def F_law : List D → FR := runF nn_law.length M_law
theorem ok_law (T : Txt K mg g fd) : FnOk P w K mg base (L2.CX P w) 9 (g 24) (fd 24) ["script"] (spP g K 1 F_law) := by
  refine fn_p (N := nn_law) (lv := 8) (m := M_law) T.f24 sc_law fun cdv A outer s H E hr => ?_
  have nd : (nn_law : List Str).Nodup := sc_law.nd
  have hu := hr.units
  have tk : Takes (cxOf (L2.CX P w) P w K mg base nn_law "law" (defScope (topS 24)) (g 24) cdv A outer s H E) (fun cls d _ H => E cls d H) := takes_of rfl rfl rfl rfl
  have po : PassesOwn (model P w) (cxOf (L2.CX P w) P w K mg base nn_law "law" (defScope (topS 24)) (g 24) cdv A outer s H E).A (cxOf (L2.CX P w) P w K mg base nn_law "law" (defScope (topS 24)) (g 24) cdv A outer s H E).env (cxOf (L2.CX P w) P w K mg base nn_law "law" (defScope (topS 24)) (g 24) cdv A outer s H E).xe := passes_of rfl
  exact (ds_cons
 (ds_set 1 nd (de_call (ok_law_draws T) tk (hr.mono (by decide)) rfl T.m13 T.f13.kp T.b13 (da_cons (de_var (i := 0)) da_nil)))
 (ds_cons
 (ds_for po rfl (di_range1 rfl T.z_range (da_cons de_int da_nil)) (dg_name 2 nd) (ds_cons
 (ds_par 3 4 rfl nd (da_cons (de_callB 1 (ok_law_take T) tk (hr.mono (by decide)) rfl T.m14 T.f14.kp T.b14 (da_cons (de_callB 1 (ok_law_pick T) tk (hr.mono (by decide)) rfl T.m15 T.f15.kp T.b15 (da_cons (de_lst (da_cons de_int (da_cons de_int (da_cons de_int da_nil)))) da_nil)) da_nil)) (da_cons (de_bin opD_add de_int (de_callB 1 (ok_law_take T) tk (hr.mono (by decide)) rfl T.m14 T.f14.kp T.b14 (da_cons (de_callB 1 (ok_law_pick T) tk (hr.mono (by decide)) rfl T.m15 T.f15.kp T.b15 (da_cons (de_lst (da_cons de_int (da_cons de_int (da_cons de_int da_nil)))) da_nil)) da_nil))) da_nil)))
 (ds_cons
 (ds_set 5 nd (de_callB 1 (ok_law_pick T) tk (hr.mono (by decide)) rfl T.m15 T.f15.kp T.b15 (da_cons (de_lst (da_cons de_int (da_cons de_int (da_cons (de_bin opD_pow de_int de_int) da_nil)))) da_nil)))
 (ds_cons
 (ds_par 6 7 rfl nd (da_cons (de_bin opD_sub (de_callB 1 (ok_law_take T) tk (hr.mono (by decide)) rfl T.m14 T.f14.kp T.b14 (da_cons (de_bin opD_add (de_bin opD_mul de_int (de_var (i := 5))) de_int) da_nil)) (de_var (i := 5))) (da_cons (de_bin opD_sub (de_callB 1 (ok_law_take T) tk (hr.mono (by decide)) rfl T.m14 T.f14.kp T.b14 (da_cons (de_bin opD_add (de_bin opD_mul de_int (de_var (i := 5))) de_int) da_nil)) (de_var (i := 5))) da_nil)))
 (ds_cons
 (ds_if (dt_not (dt_val (de_call (ok_law_same T 6) tk (hr.mono (by decide)) rfl T.m17 T.f17.kp T.b17 (da_cons (de_call (ok_law_told T) tk (hr.mono (by decide)) rfl T.m18 T.f18.kp T.b18 (da_cons de_int (da_cons (de_tup (da_cons (de_var (i := 3)) (da_cons (de_var (i := 4)) (da_cons (de_var (i := 6)) (da_cons (de_var (i := 7)) da_nil))))) da_nil))) (da_cons (de_call (ok_law_sum T) tk (hr.mono (by decide)) rfl T.m19 T.f19.kp T.b19 (da_cons (de_var (i := 3)) (da_cons (de_var (i := 4)) (da_cons (de_var (i := 6)) (da_cons (de_var (i := 7)) da_nil))))) da_nil))))) (ds_one (ds_ret de_bl)) ds_nil)
 (ds_cons
 (ds_set 8 nd (de_callB 1 (ok_law_take T) tk (hr.mono (by decide)) rfl T.m14 T.f14.kp T.b14 (da_cons de_int da_nil)))
 (ds_one (ds_if (dt_not (dt_val (de_call (ok_law_same T 6) tk (hr.mono (by decide)) rfl T.m17 T.f17.kp T.b17 (da_cons (de_call (ok_law_told T) tk (hr.mono (by decide)) rfl T.m18 T.f18.kp T.b18 (da_cons de_int (da_cons (de_tup (da_cons (de_bin opD_add (de_var (i := 3)) (de_var (i := 8))) (da_cons (de_var (i := 4)) (da_cons (de_var (i := 6)) (da_cons (de_var (i := 7)) da_nil))))) da_nil))) (da_cons (de_bin opD_add (de_call (ok_law_sum T) tk (hr.mono (by decide)) rfl T.m19 T.f19.kp T.b19 (da_cons (de_var (i := 3)) (da_cons (de_var (i := 4)) (da_cons (de_var (i := 6)) (da_cons (de_var (i := 7)) da_nil))))) (de_call (ok_law_sum T) tk (hr.mono (by decide)) rfl T.m19 T.f19.kp T.b19 (da_cons (de_var (i := 8)) (da_cons (de_var (i := 4)) (da_cons (de_var (i := 6)) (da_cons (de_bin opD_add (de_var (i := 7)) (de_bin opD_mul (de_var (i := 6)) (de_var (i := 3)))) da_nil)))))) da_nil))))) (ds_one (ds_ret de_bl)) ds_nil))))))))
 (ds_cons
 (ds_set 9 nd (de_callB 1 (ok_law_pick T) tk (hr.mono (by decide)) rfl T.m15 T.f15.kp T.b15 (da_cons (de_lst (da_cons (de_bin opD_pow de_int de_int) (da_cons (de_bin opD_pow de_int de_int) (da_cons (de_bin opD_pow de_int de_int) da_nil)))) da_nil)))
 (ds_cons
 (ds_asg (de_tup (da_cons (de_bin opD_add (de_var (i := 9)) (de_callB 1 (ok_law_take T) tk (hr.mono (by decide)) rfl T.m14 T.f14.kp T.b14 (da_cons de_int da_nil))) (da_cons (de_bin opD_add (de_bin opD_add de_int (de_bin opD_fdiv (de_var (i := 9)) de_int)) (de_callB 1 (ok_law_take T) tk (hr.mono (by decide)) rfl T.m14 T.f14.kp T.b14 (da_cons de_int da_nil))) (da_cons (de_bin opD_add (de_bin opD_fdiv (de_var (i := 9)) de_int) (de_callB 1 (ok_law_take T) tk (hr.mono (by decide)) rfl T.m14 T.f14.kp T.b14 (da_cons de_int da_nil))) (da_cons (de_callB 1 (ok_law_take T) tk (hr.mono (by decide)) rfl T.m14 T.f14.kp T.b14 (da_cons (de_bin opD_pow de_int de_int) da_nil)) da_nil))))) (dg_tup rfl (dgs_cons (dg_name 3 nd) (dgs_cons (dg_name 4 nd) (dgs_cons (dg_name 6 nd) (dgs_cons (dg_name 7 nd) dgs_nil))))))
 (ds_cons
 (ds_par 10 11 rfl nd (da_cons (de_call (ok_law_told T) tk (hr.mono (by decide)) rfl T.m18 T.f18.kp T.b18 (da_cons de_int (da_cons (de_tup (da_cons (de_var (i := 3)) (da_cons (de_var (i := 4)) (da_cons (de_var (i := 6)) (da_cons (de_var (i := 7)) da_nil))))) da_nil))) (da_cons (de_callB 1 (ok_law_pick T) tk (hr.mono (by decide)) rfl T.m15 T.f15.kp T.b15 (da_cons (de_lst (da_cons de_int (da_cons de_int (da_cons (de_bin opD_fdiv (de_var (i := 3)) de_int) (da_cons (de_bin opD_sub (de_var (i := 3)) de_int) da_nil))))) da_nil)) da_nil)))
 (ds_cons
 (ds_if (dt_cmp (opD_ne hu) (de_var (i := 10)) (de_bin opD_add (de_call (ok_law_told T) tk (hr.mono (by decide)) rfl T.m18 T.f18.kp T.b18 (da_cons de_int (da_cons (de_tup (da_cons (de_var (i := 11)) (da_cons (de_var (i := 4)) (da_cons (de_var (i := 6)) (da_cons (de_var (i := 7)) da_nil))))) da_nil))) (de_call (ok_law_told T) tk (hr.mono (by decide)) rfl T.m18 T.f18.kp T.b18 (da_cons de_int (da_cons (de_tup (da_cons (de_bin opD_sub (de_var (i := 3)) (de_var (i := 11))) (da_cons (de_var (i := 4)) (da_cons (de_var (i := 6)) (da_cons (de_bin opD_add (de_var (i := 7)) (de_bin opD_mul (de_var (i := 6)) (de_var (i := 11)))) da_nil))))) da_nil))))) (ds_one (ds_ret de_bl)) ds_nil)
 (ds_cons
 (ds_if (dt_not (dt_val (de_call (ok_law_same T 6) tk (hr.mono (by decide)) rfl T.m17 T.f17.kp T.b17 (da_cons (de_lst (da_cons (de_call (ok_law_told T) tk (hr.mono (by decide)) rfl T.m18 T.f18.kp T.b18 (da_cons de_int (da_cons (de_tup (da_cons (de_var (i := 3)) (da_cons (de_var (i := 4)) (da_cons (de_bin opD_add (de_var (i := 6)) (de_var (i := 4))) (da_cons (de_var (i := 7)) da_nil))))) da_nil))) (da_cons (de_call (ok_law_told T) tk (hr.mono (by decide)) rfl T.m18 T.f18.kp T.b18 (da_cons de_int (da_cons (de_tup (da_cons (de_var (i := 3)) (da_cons (de_var (i := 4)) (da_cons (de_var (i := 6)) (da_cons (de_bin opD_sub (de_var (i := 7)) (de_var (i := 4))) da_nil))))) da_nil))) da_nil))) (da_cons (de_lst (da_cons (de_bin opD_add (de_var (i := 10)) (de_bin opD_fdiv (de_bin opD_mul (de_var (i := 3)) (de_bin opD_sub (de_var (i := 3)) de_int)) de_int)) (da_cons (de_bin opD_sub (de_var (i := 10)) (de_var (i := 3))) da_nil))) da_nil))))) (ds_one (ds_ret de_bl)) ds_nil)
 (ds_cons
 (ds_if (dt_w (dw_or (dt_cmp (opD_ne hu) (de_call (ok_law_told T) tk (hr.mono (by decide)) rfl T.m18 T.f18.kp T.b18 (da_cons de_int (da_cons (de_tup (da_cons (de_var (i := 3)) (da_cons (de_var (i := 4)) (da_cons (de_un unD_neg (de_var (i := 6))) (da_cons (de_bin opD_add (de_var (i := 7)) (de_bin opD_mul (de_var (i := 6)) (de_bin opD_sub (de_var (i := 3)) de_int))) da_nil))))) da_nil))) (de_var (i := 10))) (dw_or1 (dt_cmp (opD_ne hu) (de_call (ok_law_told T) tk (hr.mono (by decide)) rfl T.m18 T.f18.kp T.b18 (da_cons de_int (da_cons (de_tup (da_cons (de_var (i := 3)) (da_cons de_int (da_cons (de_var (i := 6)) (da_cons (de_var (i := 7)) da_nil))))) da_nil))) (de_bin opD_add (de_bin opD_mul (de_var (i := 6)) (de_bin opD_fdiv (de_bin opD_mul (de_var (i := 3)) (de_bin opD_sub (de_var (i := 3)) de_int)) de_int)) (de_bin opD_mul (de_var (i := 7)) (de_var (i := 3)))))))) (ds_one (ds_ret de_bl)) ds_nil)
 (ds_cons
 (ds_for po rfl (di_range1 rfl T.z_range (da_cons de_int da_nil)) (dg_name 2 nd) (ds_cons
 (ds_set 5 nd (de_callB 1 (ok_law_pick T) tk (hr.mono (by decide)) rfl T.m15 T.f15.kp T.b15 (da_cons (de_lst (da_cons de_int (da_cons de_int (da_cons de_int (da_cons (de_bin opD_pow de_int de_int) da_nil))))) da_nil)))
 (ds_cons
 (ds_par 3 12 rfl nd (da_cons (de_bin opD_add (de_bin opD_mul (de_callB 1 (ok_law_take T) tk (hr.mono (by decide)) rfl T.m14 T.f14.kp T.b14 (da_cons (de_var (i := 5)) da_nil)) (de_callB 1 (ok_law_pick T) tk (hr.mono (by decide)) rfl T.m15 T.f15.kp T.b15 (da_cons (de_lst (da_cons de_int (da_cons de_int (da_cons de_int (da_cons de_int da_nil))))) da_nil))) (de_callB 1 (ok_law_pick T) tk (hr.mono (by decide)) rfl T.m15 T.f15.kp T.b15 (da_cons (de_lst (da_cons de_int (da_cons (de_var (i := 5)) da_nil))) da_nil))) (da_cons (de_bin opD_add de_int (de_callB 1 (ok_law_take T) tk (hr.mono (by decide)) rfl T.m14 T.f14.kp T.b14 (da_cons (de_var (i := 5)) da_nil))) da_nil)))
 (ds_one (ds_if (dt_not (dt_val (de_callB 1 (ok_law_are_ratios_due T) tk (hr.mono (by decide)) rfl T.m23 T.f23.kp T.b23 (da_cons (de_var (i := 3)) (da_cons (de_var (i := 12)) da_nil))))) (ds_one (ds_ret de_bl)) ds_nil)))))
 (ds_cons
 (ds_asg (de_tup (da_cons de_int (da_cons de_int da_nil))) (dg_tup rfl (dgs_cons (dg_name 13 nd) (dgs_cons (dg_name 14 nd) dgs_nil))))
 (ds_cons
 (ds_for po rfl (di_range1 rfl T.z_range (da_cons (de_callB 1 (ok_law_take T) tk (hr.mono (by decide)) rfl T.m14 T.f14.kp T.b14 (da_cons de_int da_nil)) da_nil)) (dg_name 2 nd) (ds_one (ds_par 13 14 rfl nd (da_cons (de_bin opD_add (de_var (i := 13)) (de_var (i := 14))) (da_cons (de_var (i := 13)) da_nil)))))
 (ds_cons
 (ds_if (dt_w (dw_or (dt_not (dt_val (de_callB 1 (ok_law_are_ratios_due T) tk (hr.mono (by decide)) rfl T.m23 T.f23.kp T.b23 (da_cons (de_var (i := 13)) (da_cons (de_var (i := 14)) da_nil))))) (dw_or1 (dt_not (dt_val (de_callB 1 (ok_law_are_ratios_due T) tk (hr.mono (by decide)) rfl T.m23 T.f23.kp T.b23 (da_cons (de_var (i := 14)) (da_cons (de_var (i := 13)) da_nil)))))))) (ds_one (ds_ret de_bl)) ds_nil)
 (ds_cons
 (ds_set 15 nd (de_lst (da_cons (de_tup (da_cons (de_un unD_neg de_int) (da_cons de_int (da_cons de_int (da_cons de_int da_nil))))) (da_cons (de_tup (da_cons de_int (da_cons de_int (da_cons de_int (da_cons de_int da_nil))))) (da_cons (de_tup (da_cons de_int (da_cons (de_un unD_neg de_int) (da_cons de_int (da_cons de_int da_nil))))) (da_cons (de_tup (da_cons de_bl (da_cons de_int (da_cons de_int (da_cons de_int da_nil))))) (da_cons (de_tup (da_cons de_int (da_cons de_int (da_cons de_non (da_cons de_int da_nil))))) (da_cons (de_tup (da_cons de_int (da_cons de_int (da_cons de_int (da_cons de_str da_nil))))) (da_cons (de_tup (da_cons de_int (da_cons de_bl (da_cons de_int (da_cons de_int da_nil))))) da_nil)))))))))
 (ds_cons
 (ds_set 16 nd (de_lst (da_cons (de_tup (da_cons (de_un unD_neg de_int) (da_cons de_int da_nil))) (da_cons (de_tup (da_cons de_int (da_cons de_int da_nil))) (da_cons (de_tup (da_cons de_int (da_cons (de_un unD_neg de_int) da_nil))) (da_cons (de_tup (da_cons de_bl (da_cons de_int da_nil))) (da_cons (de_tup (da_cons de_int (da_cons de_non da_nil))) (da_cons (de_tup (da_cons de_str (da_cons de_int da_nil))) da_nil))))))))
 (ds_cons
 (ds_set 17 nd (de_bin opD_add (de_bin opD_add (de_lc (own := [("one", 13)]) rfl nd (di_seq (de_var (i := 15))) (blkOk_by (N := nn_law) (sc := defScope (topS 24)) (by decide +kernel)) (fun _ _ _ _ _ => (dg_name 13 nd)) (fun _ _ _ _ _ => dts_nil) (fun _ _ _ _ _ => (de_call (ok_law_told T) takes0 (hr.mono (by decide)) rfl T.m18 T.f18.kp T.b18 (da_cons de_int (da_cons (de_var (i := 13)) da_nil))))) (de_lc (own := [("one", 13)]) rfl nd (di_seq (de_var (i := 16))) (blkOk_by (N := nn_law) (sc := defScope (topS 24)) (by decide +kernel)) (fun _ _ _ _ _ => (dg_name 13 nd)) (fun _ _ _ _ _ => dts_nil) (fun _ _ _ _ _ => (de_call (ok_law_told T) takes0 (hr.mono (by decide)) rfl T.m18 T.f18.kp T.b18 (da_cons de_int (da_cons (de_var (i := 13)) da_nil)))))) (de_lc (own := [("one", 13)]) rfl nd (di_seq (de_var (i := 16))) (blkOk_by (N := nn_law) (sc := defScope (topS 24)) (by decide +kernel)) (fun _ _ _ _ _ => (dg_name 13 nd)) (fun _ _ _ _ _ => dts_nil) (fun _ _ _ _ _ => (de_call (ok_law_told T) takes0 (hr.mono (by decide)) rfl T.m18 T.f18.kp T.b18 (da_cons de_int (da_cons (de_var (i := 13)) da_nil)))))))
 (ds_one (ds_ret (de_cmp (opD_eq hu) (de_var (i := 17)) (de_bin opD_mul (de_lst (da_cons de_str da_nil)) de_int)))))))))))))))))))
end
end Lw

set_option maxHeartbeats 1000000
namespace Lw
open PySem DL
def isInt (d : D) : Bool := match d with
  | .int _ => true
  | _ => false
def plain (d : D) : Bool := match d with
  | .int _ => true
  | .bl _ => true
  | .non => true
  | .str _ => true
  | .lst _ => true
  | .tup _ => true
  | _ => false
theorem e_is_integer {d : D} (h : plain d = true) : F_is_integer [d] = .ok (.dat (.bl (isInt d))) := by
  unfold F_is_integer M_is_integer
  cases d <;> first | (cases h; done) | skip
  all_goals simp only [v_bok, v_berr, v_sok, v_serr, v_nx, v_rt, v_bk, v_ct, v_er, v_ofs, v_var, v_slot_dat, v_slot_own, v_c, v_bin, v_kbin, v_op2, v_pk2, v_un, v_op1, v_pk1, v_peek_dat, v_peek_fr, v_peek_slot, v_pslot_own, v_pslot_dat, v_cnl, v_test, v_ktest, v_andT, v_kand1, v_kand0, v_orT, v_kor1, v_kor0, v_notT, v_knotT, v_and, v_kAnd1, v_kAnd0, v_or, v_kOr1, v_kOr0, v_not, v_knot, v_if, v_kif1, v_kif0, v_isNone, v_notNone, v_nil, v_cons, v_kcons, v_kcons2, v_fast, v_kfast, v_all0, v_all1, v_kall, v_kall2, v_force_dat, v_force_fr, v_force_slot, v_fslot_own, v_fslot_dat, v_tup, v_ktup, v_lst, v_klst, v_call, v_callF, v_at_ok, v_at_err, v_callB, v_vown, v_kcallB, v_vB, v_atB, v_meth, v_vM, v_methAt, v_vM2, v_vM3, v_append, v_pop, v_cb, v_kcb, v_pkL, v_peeks0, v_peeks1, v_cons22, v_isi, v_sl, v_ksl, v_ksl2, v_ksl3, v_slE_l, v_slE_t, v_slE_r, v_some, v_ksome, v_none, v_revSl, v_iter, v_it_l, v_it_r, v_it_t, v_rng1, v_rng2, v_lc, v_klc, v_klc2, v_yes, v_callV, v_vV, v_vV2, v_seq, v_skip, v_break, v_cont, v_raise, v_drop, v_kdrop, v_ret, v_ret_dat, v_ret_fr, v_ret_slot, v_rslot_own, v_rslot_dat, v_retN, v_ifS, v_kifS1, v_kifS0, v_set, v_put_dat, v_put_fr, v_put_slot, v_kput, v_asg, v_kasg, v_kasg2, v_tgN, v_tgNil, v_tgCons, v_ktg, v_tgT, v_par, v_kpar, v_kpar1, v_kpar2, v_kpar3, v_fix_dat, v_fix_fr, v_fix_slot, v_kfix, v_aug, v_aslot, v_kaug, v_kaug2, v_for, v_try, v_ktry_nx, v_ktry_rt, v_ktry_er, v_ktry2, v_ktry3, v_runF, v_endF_rt, v_endF_nx, v_endF_er, v_runB, v_endB_rt, v_endB_nx, v_add, v_sub, v_mul, v_mod, v_fdiv, v_neg, v_lt, v_cmp, v_eq, v_ne, v_absD, v_int1, v_len_l, v_len_t, v_len_r, v_list_l, v_list_t, v_rev_l, v_rev_r, v_ixt, v_ixl, v_ixr, v_kb_NoneType_bool, v_kb_NoneType_int, v_kb_NoneType_str, v_kb_NoneType_tuple, v_kb_NoneType_list, v_kb_NoneType_dict, v_kb_bool_bool, v_kb_bool_int, v_kb_bool_str, v_kb_bool_tuple, v_kb_bool_list, v_kb_bool_dict, v_kb_int_bool, v_kb_int_int, v_kb_int_str, v_kb_int_tuple, v_kb_int_list, v_kb_int_dict, v_kb_str_bool, v_kb_str_int, v_kb_str_str, v_kb_str_tuple, v_kb_str_list, v_kb_str_dict, v_kb_tuple_bool, v_kb_tuple_int, v_kb_tuple_str, v_kb_tuple_tuple, v_kb_tuple_list, v_kb_tuple_dict, v_kb_list_bool, v_kb_list_int, v_kb_list_str, v_kb_list_tuple, v_kb_list_list, v_kb_list_dict, v_kb_dict_bool, v_kb_dict_int, v_kb_dict_str, v_kb_dict_tuple, v_kb_dict_list, v_kb_dict_dict, v_isi_non, v_isi_bl, v_isi_int, v_isi_str, v_isi_tup, v_isi_lst, v_isi_dct, v_eq_bb, v_ne_bb, v_isNone_non, v_isNone_bl, v_isNone_int, v_isNone_str, v_isNone_tup, v_isNone_lst, List.map_cons, List.map_nil, List.length_cons, List.length_nil, List.cons_append, List.nil_append, List.replicate_succ, List.replicate_zero, List.getElem?_cons_zero, List.getElem?_cons_succ, List.set_cons_zero, List.set_cons_succ, Option.map_some, Nat.reduceSub, Nat.reduceAdd, Nat.reduceLT, Nat.reduceLeDiff, bigN]
  all_goals first | rfl | simp [isInt]
theorem e_take {l : List Int} {b : Int} (hb : 0 < b) (hl : ∀ x ∈ l, 0 ≤ x) : ∃ (v : Int) (l' : List Int), F_law_take (.lst (l.map D.int)) [.int b] = .ok (.dat (.int v)) (.lst (l'.map D.int)) ∧ 0 ≤ v ∧ v < b ∧ ∀ x ∈ l', 0 ≤ x := by
  unfold F_law_take M_law_take
  by_cases hn : l = []
  · subst hn
    refine ⟨0, [], ?_, Int.le_refl 0, hb, hl⟩
    simp only [v_bok, v_berr, v_sok, v_serr, v_nx, v_rt, v_bk, v_ct, v_er, v_ofs, v_var, v_slot_dat, v_slot_own, v_c, v_bin, v_kbin, v_op2, v_pk2, v_un, v_op1, v_pk1, v_peek_dat, v_peek_fr, v_peek_slot, v_pslot_own, v_pslot_dat, v_cnl, v_test, v_ktest, v_andT, v_kand1, v_kand0, v_orT, v_kor1, v_kor0, v_notT, v_knotT, v_and, v_kAnd1, v_kAnd0, v_or, v_kOr1, v_kOr0, v_not, v_knot, v_if, v_kif1, v_kif0, v_isNone, v_notNone, v_nil, v_cons, v_kcons, v_kcons2, v_fast, v_kfast, v_all0, v_all1, v_kall, v_kall2, v_force_dat, v_force_fr, v_force_slot, v_fslot_own, v_fslot_dat, v_tup, v_ktup, v_lst, v_klst, v_call, v_callF, v_at_ok, v_at_err, v_callB, v_vown, v_kcallB, v_vB, v_atB, v_meth, v_vM, v_methAt, v_vM2, v_vM3, v_append, v_pop, v_cb, v_kcb, v_pkL, v_peeks0, v_peeks1, v_cons22, v_isi, v_sl, v_ksl, v_ksl2, v_ksl3, v_slE_l, v_slE_t, v_slE_r, v_some, v_ksome, v_none, v_revSl, v_iter, v_it_l, v_it_r, v_it_t, v_rng1, v_rng2, v_lc, v_klc, v_klc2, v_yes, v_callV, v_vV, v_vV2, v_seq, v_skip, v_break, v_cont, v_raise, v_drop, v_kdrop, v_ret, v_ret_dat, v_ret_fr, v_ret_slot, v_rslot_own, v_rslot_dat, v_retN, v_ifS, v_kifS1, v_kifS0, v_set, v_put_dat, v_put_fr, v_put_slot, v_kput, v_asg, v_kasg, v_kasg2, v_tgN, v_tgNil, v_tgCons, v_ktg, v_tgT, v_par, v_kpar, v_kpar1, v_kpar2, v_kpar3, v_fix_dat, v_fix_fr, v_fix_slot, v_kfix, v_aug, v_aslot, v_kaug, v_kaug2, v_for, v_try, v_ktry_nx, v_ktry_rt, v_ktry_er, v_ktry2, v_ktry3, v_runF, v_endF_rt, v_endF_nx, v_endF_er, v_runB, v_endB_rt, v_endB_nx, v_add, v_sub, v_mul, v_mod, v_fdiv, v_neg, v_lt, v_cmp, v_eq, v_ne, v_absD, v_int1, v_len_l, v_len_t, v_len_r, v_list_l, v_list_t, v_rev_l, v_rev_r, v_ixt, v_ixl, v_ixr, v_kb_NoneType_bool, v_kb_NoneType_int, v_kb_NoneType_str, v_kb_NoneType_tuple, v_kb_NoneType_list, v_kb_NoneType_dict, v_kb_bool_bool, v_kb_bool_int, v_kb_bool_str, v_kb_bool_tuple, v_kb_bool_list, v_kb_bool_dict, v_kb_int_bool, v_kb_int_int, v_kb_int_str, v_kb_int_tuple, v_kb_int_list, v_kb_int_dict, v_kb_str_bool, v_kb_str_int, v_kb_str_str, v_kb_str_tuple, v_kb_str_list, v_kb_str_dict, v_kb_tuple_bool, v_kb_tuple_int, v_kb_tuple_str, v_kb_tuple_tuple, v_kb_tuple_list, v_kb_tuple_dict, v_kb_list_bool, v_kb_list_int, v_kb_list_str, v_kb_list_tuple, v_kb_list_list, v_kb_list_dict, v_kb_dict_bool, v_kb_dict_int, v_kb_dict_str, v_kb_dict_tuple, v_kb_dict_list, v_kb_dict_dict, v_isi_non, v_isi_bl, v_isi_int, v_isi_str, v_isi_tup, v_isi_lst, v_isi_dct, v_eq_bb, v_ne_bb, v_isNone_non, v_isNone_bl, v_isNone_int, v_isNone_str, v_isNone_tup, v_isNone_lst, List.map_cons, List.map_nil, List.length_cons, List.length_nil, List.cons_append, List.nil_append, List.replicate_succ, List.replicate_zero, List.getElem?_cons_zero, List.getElem?_cons_succ, List.set_cons_zero, List.set_cons_succ, Option.map_some, Nat.reduceSub, Nat.reduceAdd, Nat.reduceLT, Nat.reduceLeDiff, bigN]
    rfl
  · obtain ⟨l0, x, rfl⟩ : ∃ l0 x, l = l0 ++ [x] := ⟨l.dropLast, l.getLast hn, (List.dropLast_concat_getLast hn).symm⟩
    refine ⟨x.fmod b, l0, ?_, Int.fmod_nonneg_of_pos _ hb, Int.fmod_lt_of_pos _ hb, fun y hy => hl y (by simp [hy])⟩
    have hb0 : b ≠ 0 := by omega
    have e0 : ((((l0 ++ [x]).map D.int).length : Int) == 0) = false := by simp; omega
    simp only [v_bok, v_berr, v_sok, v_serr, v_nx, v_rt, v_bk, v_ct, v_er, v_ofs, v_var, v_slot_dat, v_slot_own, v_c, v_bin, v_kbin, v_op2, v_pk2, v_un, v_op1, v_pk1, v_peek_dat, v_peek_fr, v_peek_slot, v_pslot_own, v_pslot_dat, v_cnl, v_test, v_ktest, v_andT, v_kand1, v_kand0, v_orT, v_kor1, v_kor0, v_notT, v_knotT, v_and, v_kAnd1, v_kAnd0, v_or, v_kOr1, v_kOr0, v_not, v_knot, v_if, v_kif1, v_kif0, v_isNone, v_notNone, v_nil, v_cons, v_kcons, v_kcons2, v_fast, v_kfast, v_all0, v_all1, v_kall, v_kall2, v_force_dat, v_force_fr, v_force_slot, v_fslot_own, v_fslot_dat, v_tup, v_ktup, v_lst, v_klst, v_call, v_callF, v_at_ok, v_at_err, v_callB, v_vown, v_kcallB, v_vB, v_atB, v_meth, v_vM, v_methAt, v_vM2, v_vM3, v_append, v_pop, v_cb, v_kcb, v_pkL, v_peeks0, v_peeks1, v_cons22, v_isi, v_sl, v_ksl, v_ksl2, v_ksl3, v_slE_l, v_slE_t, v_slE_r, v_some, v_ksome, v_none, v_revSl, v_iter, v_it_l, v_it_r, v_it_t, v_rng1, v_rng2, v_lc, v_klc, v_klc2, v_yes, v_callV, v_vV, v_vV2, v_seq, v_skip, v_break, v_cont, v_raise, v_drop, v_kdrop, v_ret, v_ret_dat, v_ret_fr, v_ret_slot, v_rslot_own, v_rslot_dat, v_retN, v_ifS, v_kifS1, v_kifS0, v_set, v_put_dat, v_put_fr, v_put_slot, v_kput, v_asg, v_kasg, v_kasg2, v_tgN, v_tgNil, v_tgCons, v_ktg, v_tgT, v_par, v_kpar, v_kpar1, v_kpar2, v_kpar3, v_fix_dat, v_fix_fr, v_fix_slot, v_kfix, v_aug, v_aslot, v_kaug, v_kaug2, v_for, v_try, v_ktry_nx, v_ktry_rt, v_ktry_er, v_ktry2, v_ktry3, v_runF, v_endF_rt, v_endF_nx, v_endF_er, v_runB, v_endB_rt, v_endB_nx, v_add, v_sub, v_mul, v_mod, v_fdiv, v_neg, v_lt, v_cmp, v_eq, v_ne, v_absD, v_int1, v_len_l, v_len_t, v_len_r, v_list_l, v_list_t, v_rev_l, v_rev_r, v_ixt, v_ixl, v_ixr, v_kb_NoneType_bool, v_kb_NoneType_int, v_kb_NoneType_str, v_kb_NoneType_tuple, v_kb_NoneType_list, v_kb_NoneType_dict, v_kb_bool_bool, v_kb_bool_int, v_kb_bool_str, v_kb_bool_tuple, v_kb_bool_list, v_kb_bool_dict, v_kb_int_bool, v_kb_int_int, v_kb_int_str, v_kb_int_tuple, v_kb_int_list, v_kb_int_dict, v_kb_str_bool, v_kb_str_int, v_kb_str_str, v_kb_str_tuple, v_kb_str_list, v_kb_str_dict, v_kb_tuple_bool, v_kb_tuple_int, v_kb_tuple_str, v_kb_tuple_tuple, v_kb_tuple_list, v_kb_tuple_dict, v_kb_list_bool, v_kb_list_int, v_kb_list_str, v_kb_list_tuple, v_kb_list_list, v_kb_list_dict, v_kb_dict_bool, v_kb_dict_int, v_kb_dict_str, v_kb_dict_tuple, v_kb_dict_list, v_kb_dict_dict, v_isi_non, v_isi_bl, v_isi_int, v_isi_str, v_isi_tup, v_isi_lst, v_isi_dct, v_eq_bb, v_ne_bb, v_isNone_non, v_isNone_bl, v_isNone_int, v_isNone_str, v_isNone_tup, v_isNone_lst, List.map_cons, List.map_nil, List.length_cons, List.length_nil, List.cons_append, List.nil_append, List.replicate_succ, List.replicate_zero, List.getElem?_cons_zero, List.getElem?_cons_succ, List.set_cons_zero, List.set_cons_succ, Option.map_some, Nat.reduceSub, Nat.reduceAdd, Nat.reduceLT, Nat.reduceLeDiff, bigN, nn__law_take, e0]
    rw [List.map_append]
    simp only [v_bok, v_berr, v_sok, v_serr, v_nx, v_rt, v_bk, v_ct, v_er, v_ofs, v_var, v_slot_dat, v_slot_own, v_c, v_bin, v_kbin, v_op2, v_pk2, v_un, v_op1, v_pk1, v_peek_dat, v_peek_fr, v_peek_slot, v_pslot_own, v_pslot_dat, v_cnl, v_test, v_ktest, v_andT, v_kand1, v_kand0, v_orT, v_kor1, v_kor0, v_notT, v_knotT, v_and, v_kAnd1, v_kAnd0, v_or, v_kOr1, v_kOr0, v_not, v_knot, v_if, v_kif1, v_kif0, v_isNone, v_notNone, v_nil, v_cons, v_kcons, v_kcons2, v_fast, v_kfast, v_all0, v_all1, v_kall, v_kall2, v_force_dat, v_force_fr, v_force_slot, v_fslot_own, v_fslot_dat, v_tup, v_ktup, v_lst, v_klst, v_call, v_callF, v_at_ok, v_at_err, v_callB, v_vown, v_kcallB, v_vB, v_atB, v_meth, v_vM, v_methAt, v_vM2, v_vM3, v_append, v_pop, v_cb, v_kcb, v_pkL, v_peeks0, v_peeks1, v_cons22, v_isi, v_sl, v_ksl, v_ksl2, v_ksl3, v_slE_l, v_slE_t, v_slE_r, v_some, v_ksome, v_none, v_revSl, v_iter, v_it_l, v_it_r, v_it_t, v_rng1, v_rng2, v_lc, v_klc, v_klc2, v_yes, v_callV, v_vV, v_vV2, v_seq, v_skip, v_break, v_cont, v_raise, v_drop, v_kdrop, v_ret, v_ret_dat, v_ret_fr, v_ret_slot, v_rslot_own, v_rslot_dat, v_retN, v_ifS, v_kifS1, v_kifS0, v_set, v_put_dat, v_put_fr, v_put_slot, v_kput, v_asg, v_kasg, v_kasg2, v_tgN, v_tgNil, v_tgCons, v_ktg, v_tgT, v_par, v_kpar, v_kpar1, v_kpar2, v_kpar3, v_fix_dat, v_fix_fr, v_fix_slot, v_kfix, v_aug, v_aslot, v_kaug, v_kaug2, v_for, v_try, v_ktry_nx, v_ktry_rt, v_ktry_er, v_ktry2, v_ktry3, v_runF, v_endF_rt, v_endF_nx, v_endF_er, v_runB, v_endB_rt, v_endB_nx, v_add, v_sub, v_mul, v_mod, v_fdiv, v_neg, v_lt, v_cmp, v_eq, v_ne, v_absD, v_int1, v_len_l, v_len_t, v_len_r, v_list_l, v_list_t, v_rev_l, v_rev_r, v_ixt, v_ixl, v_ixr, v_kb_NoneType_bool, v_kb_NoneType_int, v_kb_NoneType_str, v_kb_NoneType_tuple, v_kb_NoneType_list, v_kb_NoneType_dict, v_kb_bool_bool, v_kb_bool_int, v_kb_bool_str, v_kb_bool_tuple, v_kb_bool_list, v_kb_bool_dict, v_kb_int_bool, v_kb_int_int, v_kb_int_str, v_kb_int_tuple, v_kb_int_list, v_kb_int_dict, v_kb_str_bool, v_kb_str_int, v_kb_str_str, v_kb_str_tuple, v_kb_str_list, v_kb_str_dict, v_kb_tuple_bool, v_kb_tuple_int, v_kb_tuple_str, v_kb_tuple_tuple, v_kb_tuple_list, v_kb_tuple_dict, v_kb_list_bool, v_kb_list_int, v_kb_list_str, v_kb_list_tuple, v_kb_list_list, v_kb_list_dict, v_kb_dict_bool, v_kb_dict_int, v_kb_dict_str, v_kb_dict_tuple, v_kb_dict_list, v_kb_dict_dict, v_isi_non, v_isi_bl, v_isi_int, v_isi_str, v_isi_tup, v_isi_lst, v_isi_dct, v_eq_bb, v_ne_bb, v_isNone_non, v_isNone_bl, v_isNone_int, v_isNone_str, v_isNone_tup, v_isNone_lst, List.map_cons, List.map_nil, List.length_cons, List.length_nil, List.cons_append, List.nil_append, List.replicate_succ, List.replicate_zero, List.getElem?_cons_zero, List.getElem?_cons_succ, List.set_cons_zero, List.set_cons_succ, Option.map_some, Nat.reduceSub, Nat.reduceAdd, Nat.reduceLT, Nat.reduceLeDiff, bigN]
    rw [v_mod hb0]
    rfl
def rowS (a b c : SV) : DS := [a, b, .emp, c]
theorem same_row {k : Nat} {Frec : List D → FR} {ds : List D} {t : D} (ih : ∀ x ∈ ds, Frec [x, x] = .ok (.dat (.bl true))) (ht : t = .tup ds ∨ t = .lst ds) (hl : ds.length ≤ 100000) :
    compL [3] (tgN 3) mYes (mCall 2 Frec (mCons (mBin ixD (mVar 0) (mVar 3)) (mCons (mBin ixD (mVar 1) (mVar 3)) mNil))) (iRow 0 (ds.length : Int).toNat) [] (rowS (.dat t) (.dat t) .emp) = .ok ((iRow 0 (ds.length : Int).toNat).map fun _ => .bl true) (rowS (.dat t) (.dat t) .emp) := by
  refine comp_all (fun _ => .bl true) (fun x hx => ?_) (by rw [iRow_len]; show _ ≤ 1000000; omega)
  obtain ⟨i, hi, rfl⟩ := iRow_mem hx
  have hi2 : i < ds.length := by omega
  have hg := ih ds[i] (List.getElem_mem hi2)
  have ha : L2.atI ds (i : Int) = some ds[i] := atI_at (List.getElem?_eq_getElem hi2)
  refine ⟨rowS (.dat t) (.dat t) (.dat (.int (0 + i))), rowS (.dat t) (.dat t) (.dat (.int (0 + i))), .dat (.bl true), rowS (.dat t) (.dat t) (.dat (.int (0 + i))), rowS (.dat t) (.dat t) (.dat (.int (0 + i))), rfl, rfl, ?_, rfl, rfl⟩
  rw [Int.zero_add]
  rcases ht with rfl | rfl <;> simp only [v_bok, v_berr, v_sok, v_serr, v_nx, v_rt, v_bk, v_ct, v_er, v_ofs, v_var, v_slot_dat, v_slot_own, v_c, v_bin, v_kbin, v_op2, v_pk2, v_un, v_op1, v_pk1, v_peek_dat, v_peek_fr, v_peek_slot, v_pslot_own, v_pslot_dat, v_cnl, v_test, v_ktest, v_andT, v_kand1, v_kand0, v_orT, v_kor1, v_kor0, v_notT, v_knotT, v_and, v_kAnd1, v_kAnd0, v_or, v_kOr1, v_kOr0, v_not, v_knot, v_if, v_kif1, v_kif0, v_isNone, v_notNone, v_nil, v_cons, v_kcons, v_kcons2, v_fast, v_kfast, v_all0, v_all1, v_kall, v_kall2, v_force_dat, v_force_fr, v_force_slot, v_fslot_own, v_fslot_dat, v_tup, v_ktup, v_lst, v_klst, v_call, v_callF, v_at_ok, v_at_err, v_callB, v_vown, v_kcallB, v_vB, v_atB, v_meth, v_vM, v_methAt, v_vM2, v_vM3, v_append, v_pop, v_cb, v_kcb, v_pkL, v_peeks0, v_peeks1, v_cons22, v_isi, v_sl, v_ksl, v_ksl2, v_ksl3, v_slE_l, v_slE_t, v_slE_r, v_some, v_ksome, v_none, v_revSl, v_iter, v_it_l, v_it_r, v_it_t, v_rng1, v_rng2, v_lc, v_klc, v_klc2, v_yes, v_callV, v_vV, v_vV2, v_seq, v_skip, v_break, v_cont, v_raise, v_drop, v_kdrop, v_ret, v_ret_dat, v_ret_fr, v_ret_slot, v_rslot_own, v_rslot_dat, v_retN, v_ifS, v_kifS1, v_kifS0, v_set, v_put_dat, v_put_fr, v_put_slot, v_kput, v_asg, v_kasg, v_kasg2, v_tgN, v_tgNil, v_tgCons, v_ktg, v_tgT, v_par, v_kpar, v_kpar1, v_kpar2, v_kpar3, v_fix_dat, v_fix_fr, v_fix_slot, v_kfix, v_aug, v_aslot, v_kaug, v_kaug2, v_for, v_try, v_ktry_nx, v_ktry_rt, v_ktry_er, v_ktry2, v_ktry3, v_runF, v_endF_rt, v_endF_nx, v_endF_er, v_runB, v_endB_rt, v_endB_nx, v_add, v_sub, v_mul, v_mod, v_fdiv, v_neg, v_lt, v_cmp, v_eq, v_ne, v_absD, v_int1, v_len_l, v_len_t, v_len_r, v_list_l, v_list_t, v_rev_l, v_rev_r, v_ixt, v_ixl, v_ixr, v_kb_NoneType_bool, v_kb_NoneType_int, v_kb_NoneType_str, v_kb_NoneType_tuple, v_kb_NoneType_list, v_kb_NoneType_dict, v_kb_bool_bool, v_kb_bool_int, v_kb_bool_str, v_kb_bool_tuple, v_kb_bool_list, v_kb_bool_dict, v_kb_int_bool, v_kb_int_int, v_kb_int_str, v_kb_int_tuple, v_kb_int_list, v_kb_int_dict, v_kb_str_bool, v_kb_str_int, v_kb_str_str, v_kb_str_tuple, v_kb_str_list, v_kb_str_dict, v_kb_tuple_bool, v_kb_tuple_int, v_kb_tuple_str, v_kb_tuple_tuple, v_kb_tuple_list, v_kb_tuple_dict, v_kb_list_bool, v_kb_list_int, v_kb_list_str, v_kb_list_tuple, v_kb_list_list, v_kb_list_dict, v_kb_dict_bool, v_kb_dict_int, v_kb_dict_str, v_kb_dict_tuple, v_kb_dict_list, v_kb_dict_dict, v_isi_non, v_isi_bl, v_isi_int, v_isi_str, v_isi_tup, v_isi_lst, v_isi_dct, v_eq_bb, v_ne_bb, v_isNone_non, v_isNone_bl, v_isNone_int, v_isNone_str, v_isNone_tup, v_isNone_lst, List.map_cons, List.map_nil, List.length_cons, List.length_nil, List.cons_append, List.nil_append, List.replicate_succ, List.replicate_zero, List.getElem?_cons_zero, List.getElem?_cons_succ, List.set_cons_zero, List.set_cons_succ, Option.map_some, Nat.reduceSub, Nat.reduceAdd, Nat.reduceLT, Nat.reduceLeDiff, bigN, rowS, ha, hg]
theorem e_same_int {k : Nat} {b : Int} : F_law_same (k + 1) [.int b, .int b] = .ok (.dat (.bl true)) := by
  show runF nn__law_same.length (M_law_same (F_law_same k)) [.int b, .int b] = _
  simp only [v_bok, v_berr, v_sok, v_serr, v_nx, v_rt, v_bk, v_ct, v_er, v_ofs, v_var, v_slot_dat, v_slot_own, v_c, v_bin, v_kbin, v_op2, v_pk2, v_un, v_op1, v_pk1, v_peek_dat, v_peek_fr, v_peek_slot, v_pslot_own, v_pslot_dat, v_cnl, v_test, v_ktest, v_andT, v_kand1, v_kand0, v_orT, v_kor1, v_kor0, v_notT, v_knotT, v_and, v_kAnd1, v_kAnd0, v_or, v_kOr1, v_kOr0, v_not, v_knot, v_if, v_kif1, v_kif0, v_isNone, v_notNone, v_nil, v_cons, v_kcons, v_kcons2, v_fast, v_kfast, v_all0, v_all1, v_kall, v_kall2, v_force_dat, v_force_fr, v_force_slot, v_fslot_own, v_fslot_dat, v_tup, v_ktup, v_lst, v_klst, v_call, v_callF, v_at_ok, v_at_err, v_callB, v_vown, v_kcallB, v_vB, v_atB, v_meth, v_vM, v_methAt, v_vM2, v_vM3, v_append, v_pop, v_cb, v_kcb, v_pkL, v_peeks0, v_peeks1, v_cons22, v_isi, v_sl, v_ksl, v_ksl2, v_ksl3, v_slE_l, v_slE_t, v_slE_r, v_some, v_ksome, v_none, v_revSl, v_iter, v_it_l, v_it_r, v_it_t, v_rng1, v_rng2, v_lc, v_klc, v_klc2, v_yes, v_callV, v_vV, v_vV2, v_seq, v_skip, v_break, v_cont, v_raise, v_drop, v_kdrop, v_ret, v_ret_dat, v_ret_fr, v_ret_slot, v_rslot_own, v_rslot_dat, v_retN, v_ifS, v_kifS1, v_kifS0, v_set, v_put_dat, v_put_fr, v_put_slot, v_kput, v_asg, v_kasg, v_kasg2, v_tgN, v_tgNil, v_tgCons, v_ktg, v_tgT, v_par, v_kpar, v_kpar1, v_kpar2, v_kpar3, v_fix_dat, v_fix_fr, v_fix_slot, v_kfix, v_aug, v_aslot, v_kaug, v_kaug2, v_for, v_try, v_ktry_nx, v_ktry_rt, v_ktry_er, v_ktry2, v_ktry3, v_runF, v_endF_rt, v_endF_nx, v_endF_er, v_runB, v_endB_rt, v_endB_nx, v_add, v_sub, v_mul, v_mod, v_fdiv, v_neg, v_lt, v_cmp, v_eq, v_ne, v_absD, v_int1, v_len_l, v_len_t, v_len_r, v_list_l, v_list_t, v_rev_l, v_rev_r, v_ixt, v_ixl, v_ixr, v_kb_NoneType_bool, v_kb_NoneType_int, v_kb_NoneType_str, v_kb_NoneType_tuple, v_kb_NoneType_list, v_kb_NoneType_dict, v_kb_bool_bool, v_kb_bool_int, v_kb_bool_str, v_kb_bool_tuple, v_kb_bool_list, v_kb_bool_dict, v_kb_int_bool, v_kb_int_int, v_kb_int_str, v_kb_int_tuple, v_kb_int_list, v_kb_int_dict, v_kb_str_bool, v_kb_str_int, v_kb_str_str, v_kb_str_tuple, v_kb_str_list, v_kb_str_dict, v_kb_tuple_bool, v_kb_tuple_int, v_kb_tuple_str, v_kb_tuple_tuple, v_kb_tuple_list, v_kb_tuple_dict, v_kb_list_bool, v_kb_list_int, v_kb_list_str, v_kb_list_tuple, v_kb_list_list, v_kb_list_dict, v_kb_dict_bool, v_kb_dict_int, v_kb_dict_str, v_kb_dict_tuple, v_kb_dict_list, v_kb_dict_dict, v_isi_non, v_isi_bl, v_isi_int, v_isi_str, v_isi_tup, v_isi_lst, v_isi_dct, v_eq_bb, v_ne_bb, v_isNone_non, v_isNone_bl, v_isNone_int, v_isNone_str, v_isNone_tup, v_isNone_lst, List.map_cons, List.map_nil, List.length_cons, List.length_nil, List.cons_append, List.nil_append, List.replicate_succ, List.replicate_zero, List.getElem?_cons_zero, List.getElem?_cons_succ, List.set_cons_zero, List.set_cons_succ, Option.map_some, Nat.reduceSub, Nat.reduceAdd, Nat.reduceLT, Nat.reduceLeDiff, bigN, M_law_same, beq_self_eq_true, Bool.not_true, Bool.not_false]
theorem e_same_lst {k : Nat} {ds : List D} (ih : ∀ x ∈ ds, F_law_same k [x, x] = .ok (.dat (.bl true))) (hl : ds.length ≤ 100000) : F_law_same (k + 1) [.lst ds, .lst ds] = .ok (.dat (.bl true)) := by
  show runF nn__law_same.length (M_law_same (F_law_same k)) [.lst ds, .lst ds] = _
  have r := same_row (k := k) ih (.inr rfl) hl
  have e2 : -1000000000 ≤ (ds.length : Int) ∧ (ds.length : Int) < 1000000000 := by omega
  unfold rowS at r
  simp only [v_bok, v_berr, v_sok, v_serr, v_nx, v_rt, v_bk, v_ct, v_er, v_ofs, v_var, v_slot_dat, v_slot_own, v_c, v_bin, v_kbin, v_op2, v_pk2, v_un, v_op1, v_pk1, v_peek_dat, v_peek_fr, v_peek_slot, v_pslot_own, v_pslot_dat, v_cnl, v_test, v_ktest, v_andT, v_kand1, v_kand0, v_orT, v_kor1, v_kor0, v_notT, v_knotT, v_and, v_kAnd1, v_kAnd0, v_or, v_kOr1, v_kOr0, v_not, v_knot, v_if, v_kif1, v_kif0, v_isNone, v_notNone, v_nil, v_cons, v_kcons, v_kcons2, v_fast, v_kfast, v_all0, v_all1, v_kall, v_kall2, v_force_dat, v_force_fr, v_force_slot, v_fslot_own, v_fslot_dat, v_tup, v_ktup, v_lst, v_klst, v_call, v_callF, v_at_ok, v_at_err, v_callB, v_vown, v_kcallB, v_vB, v_atB, v_meth, v_vM, v_methAt, v_vM2, v_vM3, v_append, v_pop, v_cb, v_kcb, v_pkL, v_peeks0, v_peeks1, v_cons22, v_isi, v_sl, v_ksl, v_ksl2, v_ksl3, v_slE_l, v_slE_t, v_slE_r, v_some, v_ksome, v_none, v_revSl, v_iter, v_it_l, v_it_r, v_it_t, v_rng1, v_rng2, v_lc, v_klc, v_klc2, v_yes, v_callV, v_vV, v_vV2, v_seq, v_skip, v_break, v_cont, v_raise, v_drop, v_kdrop, v_ret, v_ret_dat, v_ret_fr, v_ret_slot, v_rslot_own, v_rslot_dat, v_retN, v_ifS, v_kifS1, v_kifS0, v_set, v_put_dat, v_put_fr, v_put_slot, v_kput, v_asg, v_kasg, v_kasg2, v_tgN, v_tgNil, v_tgCons, v_ktg, v_tgT, v_par, v_kpar, v_kpar1, v_kpar2, v_kpar3, v_fix_dat, v_fix_fr, v_fix_slot, v_kfix, v_aug, v_aslot, v_kaug, v_kaug2, v_for, v_try, v_ktry_nx, v_ktry_rt, v_ktry_er, v_ktry2, v_ktry3, v_runF, v_endF_rt, v_endF_nx, v_endF_er, v_runB, v_endB_rt, v_endB_nx, v_add, v_sub, v_mul, v_mod, v_fdiv, v_neg, v_lt, v_cmp, v_eq, v_ne, v_absD, v_int1, v_len_l, v_len_t, v_len_r, v_list_l, v_list_t, v_rev_l, v_rev_r, v_ixt, v_ixl, v_ixr, v_kb_NoneType_bool, v_kb_NoneType_int, v_kb_NoneType_str, v_kb_NoneType_tuple, v_kb_NoneType_list, v_kb_NoneType_dict, v_kb_bool_bool, v_kb_bool_int, v_kb_bool_str, v_kb_bool_tuple, v_kb_bool_list, v_kb_bool_dict, v_kb_int_bool, v_kb_int_int, v_kb_int_str, v_kb_int_tuple, v_kb_int_list, v_kb_int_dict, v_kb_str_bool, v_kb_str_int, v_kb_str_str, v_kb_str_tuple, v_kb_str_list, v_kb_str_dict, v_kb_tuple_bool, v_kb_tuple_int, v_kb_tuple_str, v_kb_tuple_tuple, v_kb_tuple_list, v_kb_tuple_dict, v_kb_list_bool, v_kb_list_int, v_kb_list_str, v_kb_list_tuple, v_kb_list_list, v_kb_list_dict, v_kb_dict_bool, v_kb_dict_int, v_kb_dict_str, v_kb_dict_tuple, v_kb_dict_list, v_kb_dict_dict, v_isi_non, v_isi_bl, v_isi_int, v_isi_str, v_isi_tup, v_isi_lst, v_isi_dct, v_eq_bb, v_ne_bb, v_isNone_non, v_isNone_bl, v_isNone_int, v_isNone_str, v_isNone_tup, v_isNone_lst, List.map_cons, List.map_nil, List.length_cons, List.length_nil, List.cons_append, List.nil_append, List.replicate_succ, List.replicate_zero, List.getElem?_cons_zero, List.getElem?_cons_succ, List.set_cons_zero, List.set_cons_succ, Option.map_some, Nat.reduceSub, Nat.reduceAdd, Nat.reduceLT, Nat.reduceLeDiff, bigN, M_law_same, beq_self_eq_true, Bool.not_true, Bool.not_false, v_rng1 e2, r, allD_bl]
  simp
theorem e_same_tup {k : Nat} {ds : List D} (ih : ∀ x ∈ ds, F_law_same k [x, x] = .ok (.dat (.bl true))) (hl : ds.length ≤ 100000) : F_law_same (k + 1) [.tup ds, .tup ds] = .ok (.dat (.bl true)) := by
  show runF nn__law_same.length (M_law_same (F_law_same k)) [.tup ds, .tup ds] = _
  have r := same_row (k := k) ih (.inl rfl) hl
  have e2 : -1000000000 ≤ (ds.length : Int) ∧ (ds.length : Int) < 1000000000 := by omega
  unfold rowS at r
  simp only [v_bok, v_berr, v_sok, v_serr, v_nx, v_rt, v_bk, v_ct, v_er, v_ofs, v_var, v_slot_dat, v_slot_own, v_c, v_bin, v_kbin, v_op2, v_pk2, v_un, v_op1, v_pk1, v_peek_dat, v_peek_fr, v_peek_slot, v_pslot_own, v_pslot_dat, v_cnl, v_test, v_ktest, v_andT, v_kand1, v_kand0, v_orT, v_kor1, v_kor0, v_notT, v_knotT, v_and, v_kAnd1, v_kAnd0, v_or, v_kOr1, v_kOr0, v_not, v_knot, v_if, v_kif1, v_kif0, v_isNone, v_notNone, v_nil, v_cons, v_kcons, v_kcons2, v_fast, v_kfast, v_all0, v_all1, v_kall, v_kall2, v_force_dat, v_force_fr, v_force_slot, v_fslot_own, v_fslot_dat, v_tup, v_ktup, v_lst, v_klst, v_call, v_callF, v_at_ok, v_at_err, v_callB, v_vown, v_kcallB, v_vB, v_atB, v_meth, v_vM, v_methAt, v_vM2, v_vM3, v_append, v_pop, v_cb, v_kcb, v_pkL, v_peeks0, v_peeks1, v_cons22, v_isi, v_sl, v_ksl, v_ksl2, v_ksl3, v_slE_l, v_slE_t, v_slE_r, v_some, v_ksome, v_none, v_revSl, v_iter, v_it_l, v_it_r, v_it_t, v_rng1, v_rng2, v_lc, v_klc, v_klc2, v_yes, v_callV, v_vV, v_vV2, v_seq, v_skip, v_break, v_cont, v_raise, v_drop, v_kdrop, v_ret, v_ret_dat, v_ret_fr, v_ret_slot, v_rslot_own, v_rslot_dat, v_retN, v_ifS, v_kifS1, v_kifS0, v_set, v_put_dat, v_put_fr, v_put_slot, v_kput, v_asg, v_kasg, v_kasg2, v_tgN, v_tgNil, v_tgCons, v_ktg, v_tgT, v_par, v_kpar, v_kpar1, v_kpar2, v_kpar3, v_fix_dat, v_fix_fr, v_fix_slot, v_kfix, v_aug, v_aslot, v_kaug, v_kaug2, v_for, v_try, v_ktry_nx, v_ktry_rt, v_ktry_er, v_ktry2, v_ktry3, v_runF, v_endF_rt, v_endF_nx, v_endF_er, v_runB, v_endB_rt, v_endB_nx, v_add, v_sub, v_mul, v_mod, v_fdiv, v_neg, v_lt, v_cmp, v_eq, v_ne, v_absD, v_int1, v_len_l, v_len_t, v_len_r, v_list_l, v_list_t, v_rev_l, v_rev_r, v_ixt, v_ixl, v_ixr, v_kb_NoneType_bool, v_kb_NoneType_int, v_kb_NoneType_str, v_kb_NoneType_tuple, v_kb_NoneType_list, v_kb_NoneType_dict, v_kb_bool_bool, v_kb_bool_int, v_kb_bool_str, v_kb_bool_tuple, v_kb_bool_list, v_kb_bool_dict, v_kb_int_bool, v_kb_int_int, v_kb_int_str, v_kb_int_tuple, v_kb_int_list, v_kb_int_dict, v_kb_str_bool, v_kb_str_int, v_kb_str_str, v_kb_str_tuple, v_kb_str_list, v_kb_str_dict, v_kb_tuple_bool, v_kb_tuple_int, v_kb_tuple_str, v_kb_tuple_tuple, v_kb_tuple_list, v_kb_tuple_dict, v_kb_list_bool, v_kb_list_int, v_kb_list_str, v_kb_list_tuple, v_kb_list_list, v_kb_list_dict, v_kb_dict_bool, v_kb_dict_int, v_kb_dict_str, v_kb_dict_tuple, v_kb_dict_list, v_kb_dict_dict, v_isi_non, v_isi_bl, v_isi_int, v_isi_str, v_isi_tup, v_isi_lst, v_isi_dct, v_eq_bb, v_ne_bb, v_isNone_non, v_isNone_bl, v_isNone_int, v_isNone_str, v_isNone_tup, v_isNone_lst, List.map_cons, List.map_nil, List.length_cons, List.length_nil, List.cons_append, List.nil_append, List.replicate_succ, List.replicate_zero, List.getElem?_cons_zero, List.getElem?_cons_succ, List.set_cons_zero, List.set_cons_succ, Option.map_some, Nat.reduceSub, Nat.reduceAdd, Nat.reduceLT, Nat.reduceLeDiff, bigN, M_law_same, beq_self_eq_true, Bool.not_true, Bool.not_false, v_rng1 e2, r, allD_bl]
  simp
theorem e_same_bl {k : Nat} {b : Bool} : F_law_same (k + 1) [.bl b, .bl b] = .ok (.dat (.bl true)) := by
  show runF nn__law_same.length (M_law_same (F_law_same k)) [.bl b, .bl b] = _
  simp only [v_bok, v_berr, v_sok, v_serr, v_nx, v_rt, v_bk, v_ct, v_er, v_ofs, v_var, v_slot_dat, v_slot_own, v_c, v_bin, v_kbin, v_op2, v_pk2, v_un, v_op1, v_pk1, v_peek_dat, v_peek_fr, v_peek_slot, v_pslot_own, v_pslot_dat, v_cnl, v_test, v_ktest, v_andT, v_kand1, v_kand0, v_orT, v_kor1, v_kor0, v_notT, v_knotT, v_and, v_kAnd1, v_kAnd0, v_or, v_kOr1, v_kOr0, v_not, v_knot, v_if, v_kif1, v_kif0, v_isNone, v_notNone, v_nil, v_cons, v_kcons, v_kcons2, v_fast, v_kfast, v_all0, v_all1, v_kall, v_kall2, v_force_dat, v_force_fr, v_force_slot, v_fslot_own, v_fslot_dat, v_tup, v_ktup, v_lst, v_klst, v_call, v_callF, v_at_ok, v_at_err, v_callB, v_vown, v_kcallB, v_vB, v_atB, v_meth, v_vM, v_methAt, v_vM2, v_vM3, v_append, v_pop, v_cb, v_kcb, v_pkL, v_peeks0, v_peeks1, v_cons22, v_isi, v_sl, v_ksl, v_ksl2, v_ksl3, v_slE_l, v_slE_t, v_slE_r, v_some, v_ksome, v_none, v_revSl, v_iter, v_it_l, v_it_r, v_it_t, v_rng1, v_rng2, v_lc, v_klc, v_klc2, v_yes, v_callV, v_vV, v_vV2, v_seq, v_skip, v_break, v_cont, v_raise, v_drop, v_kdrop, v_ret, v_ret_dat, v_ret_fr, v_ret_slot, v_rslot_own, v_rslot_dat, v_retN, v_ifS, v_kifS1, v_kifS0, v_set, v_put_dat, v_put_fr, v_put_slot, v_kput, v_asg, v_kasg, v_kasg2, v_tgN, v_tgNil, v_tgCons, v_ktg, v_tgT, v_par, v_kpar, v_kpar1, v_kpar2, v_kpar3, v_fix_dat, v_fix_fr, v_fix_slot, v_kfix, v_aug, v_aslot, v_kaug, v_kaug2, v_for, v_try, v_ktry_nx, v_ktry_rt, v_ktry_er, v_ktry2, v_ktry3, v_runF, v_endF_rt, v_endF_nx, v_endF_er, v_runB, v_endB_rt, v_endB_nx, v_add, v_sub, v_mul, v_mod, v_fdiv, v_neg, v_lt, v_cmp, v_eq, v_ne, v_absD, v_int1, v_len_l, v_len_t, v_len_r, v_list_l, v_list_t, v_rev_l, v_rev_r, v_ixt, v_ixl, v_ixr, v_kb_NoneType_bool, v_kb_NoneType_int, v_kb_NoneType_str, v_kb_NoneType_tuple, v_kb_NoneType_list, v_kb_NoneType_dict, v_kb_bool_bool, v_kb_bool_int, v_kb_bool_str, v_kb_bool_tuple, v_kb_bool_list, v_kb_bool_dict, v_kb_int_bool, v_kb_int_int, v_kb_int_str, v_kb_int_tuple, v_kb_int_list, v_kb_int_dict, v_kb_str_bool, v_kb_str_int, v_kb_str_str, v_kb_str_tuple, v_kb_str_list, v_kb_str_dict, v_kb_tuple_bool, v_kb_tuple_int, v_kb_tuple_str, v_kb_tuple_tuple, v_kb_tuple_list, v_kb_tuple_dict, v_kb_list_bool, v_kb_list_int, v_kb_list_str, v_kb_list_tuple, v_kb_list_list, v_kb_list_dict, v_kb_dict_bool, v_kb_dict_int, v_kb_dict_str, v_kb_dict_tuple, v_kb_dict_list, v_kb_dict_dict, v_isi_non, v_isi_bl, v_isi_int, v_isi_str, v_isi_tup, v_isi_lst, v_isi_dct, v_eq_bb, v_ne_bb, v_isNone_non, v_isNone_bl, v_isNone_int, v_isNone_str, v_isNone_tup, v_isNone_lst, List.map_cons, List.map_nil, List.length_cons, List.length_nil, List.cons_append, List.nil_append, List.replicate_succ, List.replicate_zero, List.getElem?_cons_zero, List.getElem?_cons_succ, List.set_cons_zero, List.set_cons_succ, Option.map_some, Nat.reduceSub, Nat.reduceAdd, Nat.reduceLT, Nat.reduceLeDiff, bigN, M_law_same, beq_self_eq_true, Bool.not_true, Bool.not_false]
theorem e_same_non {k : Nat} : F_law_same (k + 1) [.non, .non] = .ok (.dat (.bl true)) := by
  show runF nn__law_same.length (M_law_same (F_law_same k)) [.non, .non] = _
  simp only [v_bok, v_berr, v_sok, v_serr, v_nx, v_rt, v_bk, v_ct, v_er, v_ofs, v_var, v_slot_dat, v_slot_own, v_c, v_bin, v_kbin, v_op2, v_pk2, v_un, v_op1, v_pk1, v_peek_dat, v_peek_fr, v_peek_slot, v_pslot_own, v_pslot_dat, v_cnl, v_test, v_ktest, v_andT, v_kand1, v_kand0, v_orT, v_kor1, v_kor0, v_notT, v_knotT, v_and, v_kAnd1, v_kAnd0, v_or, v_kOr1, v_kOr0, v_not, v_knot, v_if, v_kif1, v_kif0, v_isNone, v_notNone, v_nil, v_cons, v_kcons, v_kcons2, v_fast, v_kfast, v_all0, v_all1, v_kall, v_kall2, v_force_dat, v_force_fr, v_force_slot, v_fslot_own, v_fslot_dat, v_tup, v_ktup, v_lst, v_klst, v_call, v_callF, v_at_ok, v_at_err, v_callB, v_vown, v_kcallB, v_vB, v_atB, v_meth, v_vM, v_methAt, v_vM2, v_vM3, v_append, v_pop, v_cb, v_kcb, v_pkL, v_peeks0, v_peeks1, v_cons22, v_isi, v_sl, v_ksl, v_ksl2, v_ksl3, v_slE_l, v_slE_t, v_slE_r, v_some, v_ksome, v_none, v_revSl, v_iter, v_it_l, v_it_r, v_it_t, v_rng1, v_rng2, v_lc, v_klc, v_klc2, v_yes, v_callV, v_vV, v_vV2, v_seq, v_skip, v_break, v_cont, v_raise, v_drop, v_kdrop, v_ret, v_ret_dat, v_ret_fr, v_ret_slot, v_rslot_own, v_rslot_dat, v_retN, v_ifS, v_kifS1, v_kifS0, v_set, v_put_dat, v_put_fr, v_put_slot, v_kput, v_asg, v_kasg, v_kasg2, v_tgN, v_tgNil, v_tgCons, v_ktg, v_tgT, v_par, v_kpar, v_kpar1, v_kpar2, v_kpar3, v_fix_dat, v_fix_fr, v_fix_slot, v_kfix, v_aug, v_aslot, v_kaug, v_kaug2, v_for, v_try, v_ktry_nx, v_ktry_rt, v_ktry_er, v_ktry2, v_ktry3, v_runF, v_endF_rt, v_endF_nx, v_endF_er, v_runB, v_endB_rt, v_endB_nx, v_add, v_sub, v_mul, v_mod, v_fdiv, v_neg, v_lt, v_cmp, v_eq, v_ne, v_absD, v_int1, v_len_l, v_len_t, v_len_r, v_list_l, v_list_t, v_rev_l, v_rev_r, v_ixt, v_ixl, v_ixr, v_kb_NoneType_bool, v_kb_NoneType_int, v_kb_NoneType_str, v_kb_NoneType_tuple, v_kb_NoneType_list, v_kb_NoneType_dict, v_kb_bool_bool, v_kb_bool_int, v_kb_bool_str, v_kb_bool_tuple, v_kb_bool_list, v_kb_bool_dict, v_kb_int_bool, v_kb_int_int, v_kb_int_str, v_kb_int_tuple, v_kb_int_list, v_kb_int_dict, v_kb_str_bool, v_kb_str_int, v_kb_str_str, v_kb_str_tuple, v_kb_str_list, v_kb_str_dict, v_kb_tuple_bool, v_kb_tuple_int, v_kb_tuple_str, v_kb_tuple_tuple, v_kb_tuple_list, v_kb_tuple_dict, v_kb_list_bool, v_kb_list_int, v_kb_list_str, v_kb_list_tuple, v_kb_list_list, v_kb_list_dict, v_kb_dict_bool, v_kb_dict_int, v_kb_dict_str, v_kb_dict_tuple, v_kb_dict_list, v_kb_dict_dict, v_isi_non, v_isi_bl, v_isi_int, v_isi_str, v_isi_tup, v_isi_lst, v_isi_dct, v_eq_bb, v_ne_bb, v_isNone_non, v_isNone_bl, v_isNone_int, v_isNone_str, v_isNone_tup, v_isNone_lst, List.map_cons, List.map_nil, List.length_cons, List.length_nil, List.cons_append, List.nil_append, List.replicate_succ, List.replicate_zero, List.getElem?_cons_zero, List.getElem?_cons_succ, List.set_cons_zero, List.set_cons_succ, Option.map_some, Nat.reduceSub, Nat.reduceAdd, Nat.reduceLT, Nat.reduceLeDiff, bigN, M_law_same, beq_self_eq_true, Bool.not_true, Bool.not_false]
theorem e_same_str {k : Nat} {b : Str} (hb : PyData.strOk b = true) : F_law_same (k + 1) [.str b, .str b] = .ok (.dat (.bl true)) := by
  show runF nn__law_same.length (M_law_same (F_law_same k)) [.str b, .str b] = _
  have e3 : eqD (.str b) (.str b) = some (.dat (.bl true)) := eqD_refl (k := 1) hb (by decide)
  simp only [v_bok, v_berr, v_sok, v_serr, v_nx, v_rt, v_bk, v_ct, v_er, v_ofs, v_var, v_slot_dat, v_slot_own, v_c, v_bin, v_kbin, v_op2, v_pk2, v_un, v_op1, v_pk1, v_peek_dat, v_peek_fr, v_peek_slot, v_pslot_own, v_pslot_dat, v_cnl, v_test, v_ktest, v_andT, v_kand1, v_kand0, v_orT, v_kor1, v_kor0, v_notT, v_knotT, v_and, v_kAnd1, v_kAnd0, v_or, v_kOr1, v_kOr0, v_not, v_knot, v_if, v_kif1, v_kif0, v_isNone, v_notNone, v_nil, v_cons, v_kcons, v_kcons2, v_fast, v_kfast, v_all0, v_all1, v_kall, v_kall2, v_force_dat, v_force_fr, v_force_slot, v_fslot_own, v_fslot_dat, v_tup, v_ktup, v_lst, v_klst, v_call, v_callF, v_at_ok, v_at_err, v_callB, v_vown, v_kcallB, v_vB, v_atB, v_meth, v_vM, v_methAt, v_vM2, v_vM3, v_append, v_pop, v_cb, v_kcb, v_pkL, v_peeks0, v_peeks1, v_cons22, v_isi, v_sl, v_ksl, v_ksl2, v_ksl3, v_slE_l, v_slE_t, v_slE_r, v_some, v_ksome, v_none, v_revSl, v_iter, v_it_l, v_it_r, v_it_t, v_rng1, v_rng2, v_lc, v_klc, v_klc2, v_yes, v_callV, v_vV, v_vV2, v_seq, v_skip, v_break, v_cont, v_raise, v_drop, v_kdrop, v_ret, v_ret_dat, v_ret_fr, v_ret_slot, v_rslot_own, v_rslot_dat, v_retN, v_ifS, v_kifS1, v_kifS0, v_set, v_put_dat, v_put_fr, v_put_slot, v_kput, v_asg, v_kasg, v_kasg2, v_tgN, v_tgNil, v_tgCons, v_ktg, v_tgT, v_par, v_kpar, v_kpar1, v_kpar2, v_kpar3, v_fix_dat, v_fix_fr, v_fix_slot, v_kfix, v_aug, v_aslot, v_kaug, v_kaug2, v_for, v_try, v_ktry_nx, v_ktry_rt, v_ktry_er, v_ktry2, v_ktry3, v_runF, v_endF_rt, v_endF_nx, v_endF_er, v_runB, v_endB_rt, v_endB_nx, v_add, v_sub, v_mul, v_mod, v_fdiv, v_neg, v_lt, v_cmp, v_eq, v_ne, v_absD, v_int1, v_len_l, v_len_t, v_len_r, v_list_l, v_list_t, v_rev_l, v_rev_r, v_ixt, v_ixl, v_ixr, v_kb_NoneType_bool, v_kb_NoneType_int, v_kb_NoneType_str, v_kb_NoneType_tuple, v_kb_NoneType_list, v_kb_NoneType_dict, v_kb_bool_bool, v_kb_bool_int, v_kb_bool_str, v_kb_bool_tuple, v_kb_bool_list, v_kb_bool_dict, v_kb_int_bool, v_kb_int_int, v_kb_int_str, v_kb_int_tuple, v_kb_int_list, v_kb_int_dict, v_kb_str_bool, v_kb_str_int, v_kb_str_str, v_kb_str_tuple, v_kb_str_list, v_kb_str_dict, v_kb_tuple_bool, v_kb_tuple_int, v_kb_tuple_str, v_kb_tuple_tuple, v_kb_tuple_list, v_kb_tuple_dict, v_kb_list_bool, v_kb_list_int, v_kb_list_str, v_kb_list_tuple, v_kb_list_list, v_kb_list_dict, v_kb_dict_bool, v_kb_dict_int, v_kb_dict_str, v_kb_dict_tuple, v_kb_dict_list, v_kb_dict_dict, v_isi_non, v_isi_bl, v_isi_int, v_isi_str, v_isi_tup, v_isi_lst, v_isi_dct, v_eq_bb, v_ne_bb, v_isNone_non, v_isNone_bl, v_isNone_int, v_isNone_str, v_isNone_tup, v_isNone_lst, List.map_cons, List.map_nil, List.length_cons, List.length_nil, List.cons_append, List.nil_append, List.replicate_succ, List.replicate_zero, List.getElem?_cons_zero, List.getElem?_cons_succ, List.set_cons_zero, List.set_cons_succ, Option.map_some, Nat.reduceSub, Nat.reduceAdd, Nat.reduceLT, Nat.reduceLeDiff, bigN, M_law_same, beq_self_eq_true, Bool.not_true, Bool.not_false, e3]
theorem e_same : ∀ (k : Nat) (d : D), Good k d → F_law_same k [d, d] = .ok (.dat (.bl true)) := by
  intro k
  induction k with
  | zero => intro d h; exact False.elim h
  | succ k ih =>
    intro d h
    match d, h with
    | .non, _ => exact e_same_non
    | .bl _, _ => exact e_same_bl
    | .int _, _ => exact e_same_int
    | .str _, h => exact e_same_str h
    | .tup _, h => exact e_same_tup (fun x hx => ih x (h.2 x hx)) h.1
    | .lst _, h => exact e_same_lst (fun x hx => ih x (h.2 x hx)) h.1
/-! ### draws -/
def nonneg (l : List Int) : Prop := ∀ x ∈ l, 0 ≤ x
theorem e_pick {l : List Int} {ds : List D} (hn : ds ≠ []) (hl : nonneg l) : ∃ (d : D) (l' : List Int), F_law_pick (.lst (l.map D.int)) [.lst ds] = .ok (.dat d) (.lst (l'.map D.int)) ∧ d ∈ ds ∧ nonneg l' := by
  have h0 : (0 : Int) < ds.length := by have := List.length_pos_iff.mpr hn; omega
  obtain ⟨v, l', h1, h2, h3, h4⟩ := e_take h0 hl
  have hv : v.toNat < ds.length := by omega
  have ha : L2.atI ds v = some ds[v.toNat] := by
    have := atI_at (List.getElem?_eq_getElem hv)
    rwa [Int.toNat_of_nonneg h2] at this
  refine ⟨ds[v.toNat], l', ?_, List.getElem_mem hv, h4⟩
  unfold F_law_pick M_law_pick
  simp only [v_bok, v_berr, v_sok, v_serr, v_nx, v_rt, v_bk, v_ct, v_er, v_ofs, v_var, v_slot_dat, v_slot_own, v_c, v_bin, v_kbin, v_op2, v_pk2, v_un, v_op1, v_pk1, v_peek_dat, v_peek_fr, v_peek_slot, v_pslot_own, v_pslot_dat, v_cnl, v_test, v_ktest, v_andT, v_kand1, v_kand0, v_orT, v_kor1, v_kor0, v_notT, v_knotT, v_and, v_kAnd1, v_kAnd0, v_or, v_kOr1, v_kOr0, v_not, v_knot, v_if, v_kif1, v_kif0, v_isNone, v_notNone, v_nil, v_cons, v_kcons, v_kcons2, v_fast, v_kfast, v_all0, v_all1, v_kall, v_kall2, v_force_dat, v_force_fr, v_force_slot, v_fslot_own, v_fslot_dat, v_tup, v_ktup, v_lst, v_klst, v_call, v_callF, v_at_ok, v_at_err, v_callB, v_vown, v_kcallB, v_vB, v_atB, v_meth, v_vM, v_methAt, v_vM2, v_vM3, v_append, v_pop, v_cb, v_kcb, v_pkL, v_peeks0, v_peeks1, v_cons22, v_isi, v_sl, v_ksl, v_ksl2, v_ksl3, v_slE_l, v_slE_t, v_slE_r, v_some, v_ksome, v_none, v_revSl, v_iter, v_it_l, v_it_r, v_it_t, v_rng1, v_rng2, v_lc, v_klc, v_klc2, v_yes, v_callV, v_vV, v_vV2, v_seq, v_skip, v_break, v_cont, v_raise, v_drop, v_kdrop, v_ret, v_ret_dat, v_ret_fr, v_ret_slot, v_rslot_own, v_rslot_dat, v_retN, v_ifS, v_kifS1, v_kifS0, v_set, v_put_dat, v_put_fr, v_put_slot, v_kput, v_asg, v_kasg, v_kasg2, v_tgN, v_tgNil, v_tgCons, v_ktg, v_tgT, v_par, v_kpar, v_kpar1, v_kpar2, v_kpar3, v_fix_dat, v_fix_fr, v_fix_slot, v_kfix, v_aug, v_aslot, v_kaug, v_kaug2, v_for, v_try, v_ktry_nx, v_ktry_rt, v_ktry_er, v_ktry2, v_ktry3, v_runF, v_endF_rt, v_endF_nx, v_endF_er, v_runB, v_endB_rt, v_endB_nx, v_add, v_sub, v_mul, v_mod, v_fdiv, v_neg, v_lt, v_cmp, v_eq, v_ne, v_absD, v_int1, v_len_l, v_len_t, v_len_r, v_list_l, v_list_t, v_rev_l, v_rev_r, v_ixt, v_ixl, v_ixr, v_kb_NoneType_bool, v_kb_NoneType_int, v_kb_NoneType_str, v_kb_NoneType_tuple, v_kb_NoneType_list, v_kb_NoneType_dict, v_kb_bool_bool, v_kb_bool_int, v_kb_bool_str, v_kb_bool_tuple, v_kb_bool_list, v_kb_bool_dict, v_kb_int_bool, v_kb_int_int, v_kb_int_str, v_kb_int_tuple, v_kb_int_list, v_kb_int_dict, v_kb_str_bool, v_kb_str_int, v_kb_str_str, v_kb_str_tuple, v_kb_str_list, v_kb_str_dict, v_kb_tuple_bool, v_kb_tuple_int, v_kb_tuple_str, v_kb_tuple_tuple, v_kb_tuple_list, v_kb_tuple_dict, v_kb_list_bool, v_kb_list_int, v_kb_list_str, v_kb_list_tuple, v_kb_list_list, v_kb_list_dict, v_kb_dict_bool, v_kb_dict_int, v_kb_dict_str, v_kb_dict_tuple, v_kb_dict_list, v_kb_dict_dict, v_isi_non, v_isi_bl, v_isi_int, v_isi_str, v_isi_tup, v_isi_lst, v_isi_dct, v_eq_bb, v_ne_bb, v_isNone_non, v_isNone_bl, v_isNone_int, v_isNone_str, v_isNone_tup, v_isNone_lst, List.map_cons, List.map_nil, List.length_cons, List.length_nil, List.cons_append, List.nil_append, List.replicate_succ, List.replicate_zero, List.getElem?_cons_zero, List.getElem?_cons_succ, List.set_cons_zero, List.set_cons_succ, Option.map_some, Nat.reduceSub, Nat.reduceAdd, Nat.reduceLT, Nat.reduceLeDiff, bigN, nn__law_pick, h1, ha]
end Lw

/-! Floor sums and near ratios, in plain Lean. -/
namespace Lw
def S (m a c : Int) : Nat → Int
  | 0 => 0
  | k + 1 => S m a c k + (a * k + c) / m
def T : Nat → Int
  | 0 => 0
  | k + 1 => T k + k
theorem T_eq : ∀ n : Nat, T n * 2 = n * (n - 1)
  | 0 => rfl
  | k + 1 => by
    have ih := T_eq k
    show (T k + k) * 2 = ((k + 1 : Nat) : Int) * (((k + 1 : Nat) : Int) - 1)
    rw [Int.add_mul, ih]
    push_cast
    grind
theorem T_div (n : Nat) : (n : Int) * (n - 1) / 2 = T n := by
  rw [← T_eq n]; omega
theorem T_div' (n : Nat) : ((n : Int) - 1) * n / 2 = T n := by
  rw [Int.mul_comm]; exact T_div n
theorem S_add (m a c : Int) (n : Nat) : ∀ k : Nat, S m a c (n + k) = S m a c n + S m a (c + a * n) k
  | 0 => by simp [S]
  | k + 1 => by
    show S m a c (n + k) + (a * ((n + k : Nat) : Int) + c) / m = S m a c n + (S m a (c + a * n) k + (a * k + (c + a * n)) / m)
    rw [S_add m a c n k]
    have e : a * ((n + k : Nat) : Int) + c = a * k + (c + a * n) := by push_cast; grind
    rw [e]
    omega
theorem S_front (m a c : Int) (n : Nat) : S m a c (n + 1) = c / m + S m a (c + a) n := by
  rw [Nat.add_comm, S_add m a c 1 n]
  simp [S]
theorem S_shift {m : Int} (hm : 0 < m) (a c q r : Int) : ∀ n : Nat, S m (a + m * q) (c + m * r) n = S m a c n + q * T n + r * n
  | 0 => by simp [S, T]
  | k + 1 => by
    show S m (a + m * q) (c + m * r) k + ((a + m * q) * k + (c + m * r)) / m = S m a c k + (a * k + c) / m + q * (T k + k) + r * ((k + 1 : Nat) : Int)
    rw [S_shift hm a c q r k]
    have e : (a + m * q) * k + (c + m * r) = (a * k + c) + m * (q * k + r) := by grind
    rw [e, Int.add_mul_ediv_left _ _ (by omega)]
    push_cast
    grind
theorem S_split {m : Int} (hm : 0 < m) (a c : Int) (n : Nat) : S m a c n = T n * (a / m) + n * (c / m) + S m (a % m) (c % m) n := by
  have h := S_shift hm (a % m) (c % m) (a / m) (c / m) n
  have e1 : a % m + m * (a / m) = a := by have := Int.mul_ediv_add_emod a m; omega
  have e2 : c % m + m * (c / m) = c := by have := Int.mul_ediv_add_emod c m; omega
  rw [e1, e2] at h
  rw [h]
  grind
theorem S_zero {m a c : Int} (hm : 0 < m) (ha : 0 ≤ a) (hc : 0 ≤ c) : ∀ n : Nat, a * n + c < m → S m a c n = 0
  | 0, _ => rfl
  | k + 1, h => by
    push_cast at h
    have h1 : 0 ≤ a * k := Int.mul_nonneg ha (by omega)
    have h2 : a * (k + 1) = a * k + a := by grind
    have hk : a * k + c < m := by omega
    show S m a c k + (a * k + c) / m = 0
    rw [S_zero hm ha hc k hk, Int.ediv_eq_zero_of_lt (by omega) hk]
    rfl
/-- r grows by a: every quotient grows by one -/
theorem S_up {a : Int} (ha : 0 < a) (m r : Int) : ∀ N : Nat, S a m (r + a) N = S a m r N + N
  | 0 => by simp [S]
  | k + 1 => by
    show S a m (r + a) k + (m * k + (r + a)) / a = S a m r k + (m * k + r) / a + ((k + 1 : Nat) : Int)
    rw [S_up ha m r k]
    have e : m * k + (r + a) = (m * k + r) + a * 1 := by omega
    rw [e, Int.add_mul_ediv_left _ _ (by omega)]
    push_cast
    omega
theorem S_recip {m a c : Int} (ha : 0 < a) (ham : a < m) (hc : 0 ≤ c) (hcm : c < m) : ∀ n : Nat, S m a c n = S a m ((a * n + c) % m) ((a * n + c) / m).toNat
  | 0 => by
    have e : (a * ((0 : Nat) : Int) + c) / m = 0 := by
      rw [show a * ((0 : Nat) : Int) + c = c by simp]
      exact Int.ediv_eq_zero_of_lt hc hcm
    rw [e]
    rfl
  | n + 1 => by
    have hm : 0 < m := by omega
    have h0 : 0 ≤ a * n := Int.mul_nonneg (by omega) (by omega)
    show S m a c n + (a * n + c) / m = _
    rw [S_recip ha ham hc hcm n]
    have eh : a * ((n + 1 : Nat) : Int) + c = (a * n + c) + a := by push_cast; grind
    rw [eh]
    have hq : 0 ≤ (a * n + c) / m := Int.ediv_nonneg (by omega) (by omega)
    have hr0 := Int.emod_nonneg (a * n + c) (show m ≠ 0 by omega)
    have hr1 := Int.emod_lt_of_pos (a * n + c) hm
    have hd := Int.mul_ediv_add_emod (a * n + c) m
    generalize hQ : (a * n + c) / m = Q at *
    generalize hR : (a * n + c) % m = R at *
    by_cases hlt : R + a < m
    · have e1 : (a * n + c + a) / m = Q := by
        rw [← hd, Int.add_assoc, Int.mul_add_ediv_left _ _ (by omega), Int.ediv_eq_zero_of_lt (by omega) hlt, Int.add_zero]
      have e2 : (a * n + c + a) % m = R + a := by
        rw [← hd, Int.add_assoc, Int.mul_add_emod_self_left, Int.emod_eq_of_lt (by omega) hlt]
      rw [e1, e2, S_up ha m R]
      omega
    · have e0 : a * n + c + a = m * (Q + 1) + (R + a - m) := by rw [← hd]; grind
      have e1 : (a * n + c + a) / m = Q + 1 := by
        rw [e0, Int.mul_add_ediv_left _ _ (by omega), Int.ediv_eq_zero_of_lt (by omega) (by omega), Int.add_zero]
      have e2 : (a * n + c + a) % m = R + a - m := by
        rw [e0, Int.mul_add_emod_self_left, Int.emod_eq_of_lt (by omega) (by omega)]
      rw [e1, e2]
      have e3 : (Q + 1).toNat = Q.toNat + 1 := by omega
      rw [e3, S_front, Int.ediv_eq_zero_of_lt (by omega) (by omega)]
      have e4 : R + a - m + m = R + a := by omega
      rw [e4, S_up ha m R]
      omega
theorem S_rev (m a c : Int) : ∀ n : Nat, S m (-a) (c + a * (n - 1)) n = S m a c n
  | 0 => rfl
  | n + 1 => by
    rw [S_front]
    show _ = S m a c n + (a * n + c) / m
    rw [← S_rev m a c n]
    have e1 : c + a * (((n + 1 : Nat) : Int) - 1) = a * n + c := by push_cast; grind
    have e2 : a * n + c + -a = c + a * (n - 1) := by grind
    rw [e1, e2]
    omega
theorem S_one (a c : Int) : ∀ n : Nat, S 1 a c n = a * T n + c * n
  | 0 => by simp [S, T]
  | n + 1 => by
    show S 1 a c n + (a * n + c) / 1 = a * (T n + n) + c * ((n + 1 : Nat) : Int)
    rw [S_one a c n, Int.ediv_one]
    push_cast
    grind
theorem S_bound {m a c : Int} {n : Nat} (ham : a < m) (ha : 0 ≤ a) (hc : 0 ≤ c) (hcm : c < m) : (a * n + c) / m ≤ n := by
  have hm : 0 < m := by omega
  have h1 : a * n ≤ (m - 1) * n := Int.mul_le_mul_of_nonneg_right (by omega) (by omega)
  have h2 : (m - 1) * n = m * n - n := by grind
  have h3 : a * n + c < m * (n + 1) := by
    have : m * ((n : Int) + 1) = m * n + m := by grind
    omega
  have := Int.ediv_lt_of_lt_mul hm (show a * n + c < ((n : Int) + 1) * m by rw [Int.mul_comm ((n : Int) + 1) m]; exact h3)
  omega
end Lw

set_option maxHeartbeats 1000000
namespace Lw
open PySem DL
theorem fd {a m : Int} (h : 0 ≤ m) : a.fdiv m = a / m := Int.fdiv_eq_ediv_of_nonneg a h
theorem fm {a m : Int} (h : 0 ≤ m) : a.fmod m = a % m := Int.fmod_eq_emod_of_nonneg a h
theorem c_l {i j : Int} (h0 : 0 ≤ i) (h1 : i < 18446744073709551616) : L2.CMul i j := .inl ⟨by omega, by omega⟩
theorem c_r {i j : Int} (h0 : -18446744073709551616 < j) (h1 : j < 18446744073709551616) : L2.CMul i j := .inr ⟨by omega, by omega⟩
theorem lt250 {m : Int} (h : m < 18446744073709551616) : m < 2 ^ 250 := by
  have : (18446744073709551616 : Int) ≤ 2 ^ 250 := by decide
  omega
/-- what a turn of floor_by's loop needs of its numbers -/
structure FB (tot n m a c found : Int) : Prop where
  n0 : 0 ≤ n
  n1 : n < 18446744073709551616
  m0 : 0 < m
  m1 : m < 18446744073709551616
  a0 : 0 ≤ a
  a1 : a < 18446744073709551616
  c0 : 0 ≤ c
  tot : found + S m a c n.toNat = tot
theorem FB.step {tot n m a c found : Int} (h : FB tot n m a c found) (hn : 0 < n) : 
    let found' := found + ((n - 1) * n / 2 * (a / m) + n * (c / m))
    let a' := a % m
    let c' := c % m
    let high := a' * n + c'
    0 ≤ a' ∧ a' < m ∧ 0 ≤ c' ∧ c' < m ∧ 0 ≤ a / m ∧ a / m < 18446744073709551616 ∧ (high < m → found' = tot) ∧ (¬ high < m → FB tot (high / m) a' m (high % m) found') := by
  intro found' a' c' high
  have hm := h.m0
  have ha0 : 0 ≤ a' := Int.emod_nonneg _ (by omega)
  have ha1 : a' < m := Int.emod_lt_of_pos _ hm
  have hc0 : 0 ≤ c' := Int.emod_nonneg _ (by omega)
  have hc1 : c' < m := Int.emod_lt_of_pos _ hm
  have hq0 : 0 ≤ a / m := Int.ediv_nonneg h.a0 (by omega)
  have hq1 : a / m ≤ a := Int.ediv_le_self _ h.a0
  have hN : ((n.toNat : Nat) : Int) = n := Int.toNat_of_nonneg h.n0
  have hs := S_split hm a c n.toNat
  rw [← T_div' n.toNat, hN] at hs
  have hf : found' + S m a' c' n.toNat = tot := by
    rw [← h.tot, hs]
    show found + ((n - 1) * n / 2 * (a / m) + n * (c / m)) + S m (a % m) (c % m) n.toNat = _
    omega
  refine ⟨ha0, ha1, hc0, hc1, hq0, by have := h.a1; omega, fun hl => ?_, fun hl => ?_⟩
  · rw [S_zero hm ha0 hc0 n.toNat (by rw [hN]; exact hl)] at hf
    omega
  · have hp : 0 < a' := by
      rcases Int.lt_or_le 0 a' with z | z
      · exact z
      · have z2 : a' = 0 := by omega
        exact absurd (show high < m by show a' * n + c' < m; rw [z2]; omega) hl
    have hb := S_bound (n := n.toNat) ha1 ha0 hc0 hc1
    rw [hN] at hb
    have h0 : 0 ≤ a' * n := Int.mul_nonneg ha0 h.n0
    have hr := S_recip hp ha1 hc0 hc1 n.toNat
    rw [hN] at hr
    have := h.n1
    have := h.m1
    have hh : 0 ≤ high / m := Int.ediv_nonneg (by show 0 ≤ a' * n + c'; omega) (by omega)
    exact ⟨hh, by show (a' * n + c') / m < _; omega, hp, by omega, by omega, h.m1, Int.emod_nonneg _ (by omega), by rw [← hr]; exact hf⟩
theorem e_floor_by {n m a c : Int} (h : FB (S m a c n.toNat) n m a c 0) : F_floor_by [.int n, .int m, .int a, .int c] = .ok (.dat (.int (S m a c n.toNat))) := by
  unfold F_floor_by M_floor_by
  generalize hT : S m a c n.toNat = tot at h
  have key := while_rule (c := mTest (mBin gtD (mVar 0) (mC (.int 0)))) (b := (mSeq
 (mAug 4 (fun a b => some (a + b)) (mBin addD (mBin mulD (mBin fdivD (mBin mulD (mBin subD (mVar 0) (mC (.int 1))) (mVar 0)) (mC (.int 2))) (mBin fdivD (mVar 2) (mVar 1))) (mBin mulD (mVar 0) (mBin fdivD (mVar 3) (mVar 1)))))
 (mSeq
 (mPar 2 3 (mCons (mBin modD (mVar 2) (mVar 1)) (mCons (mBin modD (mVar 3) (mVar 1)) mNil)))
 (mSeq
 (mSet 5 (mBin addD (mBin mulD (mVar 2) (mVar 0)) (mVar 3)))
 (mSeq
 (mIfS (mTest (mBin ltD (mVar 5) (mVar 1))) (mRet (mVar 4)) mSkip)
 (mAsg (tgT 4 (tgCons (tgN 0) (tgCons (tgN 3) (tgCons (tgN 1) (tgCons (tgN 2) tgNil))))) (mTup (mCons (mBin fdivD (mVar 5) (mVar 1)) (mCons (mBin modD (mVar 5) (mVar 1)) (mCons (mVar 2) (mCons (mVar 1) mNil)))))))))))
    (R := fun r => (∃ τ, r = .rt (.dat (.int tot)) τ) ∨ ∃ τ, r = .nx τ ∧ τ[4]? = some (.dat (.int tot)))
    (fun k τ => ∃ n m a c found x, τ = [.dat (.int n), .dat (.int m), .dat (.int a), .dat (.int c), .dat (.int found), x] ∧ FB tot n m a c found ∧ k = m.toNat)
    (fun k τ ⟨n, m, a, c, found, x, eτ, h, ek⟩ => by
      subst eτ
      by_cases hn : 0 < n
      · refine .inr ⟨[.dat (.int n), .dat (.int m), .dat (.int a), .dat (.int c), .dat (.int found), x], by simp only [v_bok, v_berr, v_sok, v_serr, v_nx, v_rt, v_bk, v_ct, v_er, v_ofs, v_var, v_slot_dat, v_slot_own, v_c, v_bin, v_kbin, v_op2, v_pk2, v_un, v_op1, v_pk1, v_peek_dat, v_peek_fr, v_peek_slot, v_pslot_own, v_pslot_dat, v_cnl, v_test, v_ktest, v_andT, v_kand1, v_kand0, v_orT, v_kor1, v_kor0, v_notT, v_knotT, v_and, v_kAnd1, v_kAnd0, v_or, v_kOr1, v_kOr0, v_not, v_knot, v_if, v_kif1, v_kif0, v_isNone, v_notNone, v_nil, v_cons, v_kcons, v_kcons2, v_fast, v_kfast, v_all0, v_all1, v_kall, v_kall2, v_force_dat, v_force_fr, v_force_slot, v_fslot_own, v_fslot_dat, v_tup, v_ktup, v_lst, v_klst, v_call, v_callF, v_at_ok, v_at_err, v_callB, v_vown, v_kcallB, v_vB, v_atB, v_meth, v_vM, v_methAt, v_vM2, v_vM3, v_append, v_pop, v_cb, v_kcb, v_pkL, v_peeks0, v_peeks1, v_cons22, v_isi, v_sl, v_ksl, v_ksl2, v_ksl3, v_slE_l, v_slE_t, v_slE_r, v_some, v_ksome, v_none, v_revSl, v_iter, v_it_l, v_it_r, v_it_t, v_rng1, v_rng2, v_lc, v_klc, v_klc2, v_yes, v_callV, v_vV, v_vV2, v_seq, v_skip, v_break, v_cont, v_raise, v_drop, v_kdrop, v_ret, v_ret_dat, v_ret_fr, v_ret_slot, v_rslot_own, v_rslot_dat, v_retN, v_ifS, v_kifS1, v_kifS0, v_set, v_put_dat, v_put_fr, v_put_slot, v_kput, v_asg, v_kasg, v_kasg2, v_tgN, v_tgNil, v_tgCons, v_ktg, v_tgT, v_par, v_kpar, v_kpar1, v_kpar2, v_kpar3, v_fix_dat, v_fix_fr, v_fix_slot, v_kfix, v_aug, v_aslot, v_kaug, v_kaug2, v_for, v_try, v_ktry_nx, v_ktry_rt, v_ktry_er, v_ktry2, v_ktry3, v_runF, v_endF_rt, v_endF_nx, v_endF_er, v_runB, v_endB_rt, v_endB_nx, v_add, v_sub, v_mul, v_mod, v_fdiv, v_neg, v_lt, v_cmp, v_eq, v_ne, v_absD, v_int1, v_len_l, v_len_t, v_len_r, v_list_l, v_list_t, v_rev_l, v_rev_r, v_ixt, v_ixl, v_ixr, v_kb_NoneType_bool, v_kb_NoneType_int, v_kb_NoneType_str, v_kb_NoneType_tuple, v_kb_NoneType_list, v_kb_NoneType_dict, v_kb_bool_bool, v_kb_bool_int, v_kb_bool_str, v_kb_bool_tuple, v_kb_bool_list, v_kb_bool_dict, v_kb_int_bool, v_kb_int_int, v_kb_int_str, v_kb_int_tuple, v_kb_int_list, v_kb_int_dict, v_kb_str_bool, v_kb_str_int, v_kb_str_str, v_kb_str_tuple, v_kb_str_list, v_kb_str_dict, v_kb_tuple_bool, v_kb_tuple_int, v_kb_tuple_str, v_kb_tuple_tuple, v_kb_tuple_list, v_kb_tuple_dict, v_kb_list_bool, v_kb_list_int, v_kb_list_str, v_kb_list_tuple, v_kb_list_list, v_kb_list_dict, v_kb_dict_bool, v_kb_dict_int, v_kb_dict_str, v_kb_dict_tuple, v_kb_dict_list, v_kb_dict_dict, v_isi_non, v_isi_bl, v_isi_int, v_isi_str, v_isi_tup, v_isi_lst, v_isi_dct, v_eq_bb, v_ne_bb, v_isNone_non, v_isNone_bl, v_isNone_int, v_isNone_str, v_isNone_tup, v_isNone_lst, List.map_cons, List.map_nil, List.length_cons, List.length_nil, List.cons_append, List.nil_append, List.replicate_succ, List.replicate_zero, List.getElem?_cons_zero, List.getElem?_cons_succ, List.set_cons_zero, List.set_cons_succ, Option.map_some, Nat.reduceSub, Nat.reduceAdd, Nat.reduceLT, Nat.reduceLeDiff, bigN]; rw [decide_eq_true hn], ?_⟩
        obtain ⟨ha0, ha1, hc0, hc1, hq0, hq1, hx, hy⟩ := h.step hn
        have hm := h.m0
        have hm1 := lt250 h.m1
        have hmz : m ≠ 0 := by omega
        have k1 : L2.CMul (n - 1) n := c_l (by omega) (by have := h.n1; omega)
        have k2 : L2.CMul ((n - 1) * n / 2) (a / m) := c_r (by omega) hq1
        have k3 : L2.CMul n (c / m) := c_l h.n0 h.n1
        have k4 : L2.CMul (a % m) n := c_l ha0 (by have := h.m1; omega)
        by_cases hl : a % m * n + c % m < m
        · have d1 : decide (a % m * n + c % m < m) = true := decide_eq_true hl
          refine .inr (.inr ?_)
          simp only [v_bok, v_berr, v_sok, v_serr, v_nx, v_rt, v_bk, v_ct, v_er, v_ofs, v_var, v_slot_dat, v_slot_own, v_c, v_bin, v_kbin, v_op2, v_pk2, v_un, v_op1, v_pk1, v_peek_dat, v_peek_fr, v_peek_slot, v_pslot_own, v_pslot_dat, v_cnl, v_test, v_ktest, v_andT, v_kand1, v_kand0, v_orT, v_kor1, v_kor0, v_notT, v_knotT, v_and, v_kAnd1, v_kAnd0, v_or, v_kOr1, v_kOr0, v_not, v_knot, v_if, v_kif1, v_kif0, v_isNone, v_notNone, v_nil, v_cons, v_kcons, v_kcons2, v_fast, v_kfast, v_all0, v_all1, v_kall, v_kall2, v_force_dat, v_force_fr, v_force_slot, v_fslot_own, v_fslot_dat, v_tup, v_ktup, v_lst, v_klst, v_call, v_callF, v_at_ok, v_at_err, v_callB, v_vown, v_kcallB, v_vB, v_atB, v_meth, v_vM, v_methAt, v_vM2, v_vM3, v_append, v_pop, v_cb, v_kcb, v_pkL, v_peeks0, v_peeks1, v_cons22, v_isi, v_sl, v_ksl, v_ksl2, v_ksl3, v_slE_l, v_slE_t, v_slE_r, v_some, v_ksome, v_none, v_revSl, v_iter, v_it_l, v_it_r, v_it_t, v_rng1, v_rng2, v_lc, v_klc, v_klc2, v_yes, v_callV, v_vV, v_vV2, v_seq, v_skip, v_break, v_cont, v_raise, v_drop, v_kdrop, v_ret, v_ret_dat, v_ret_fr, v_ret_slot, v_rslot_own, v_rslot_dat, v_retN, v_ifS, v_kifS1, v_kifS0, v_set, v_put_dat, v_put_fr, v_put_slot, v_kput, v_asg, v_kasg, v_kasg2, v_tgN, v_tgNil, v_tgCons, v_ktg, v_tgT, v_par, v_kpar, v_kpar1, v_kpar2, v_kpar3, v_fix_dat, v_fix_fr, v_fix_slot, v_kfix, v_aug, v_aslot, v_kaug, v_kaug2, v_for, v_try, v_ktry_nx, v_ktry_rt, v_ktry_er, v_ktry2, v_ktry3, v_runF, v_endF_rt, v_endF_nx, v_endF_er, v_runB, v_endB_rt, v_endB_nx, v_add, v_sub, v_mul, v_mod, v_fdiv, v_neg, v_lt, v_cmp, v_eq, v_ne, v_absD, v_int1, v_len_l, v_len_t, v_len_r, v_list_l, v_list_t, v_rev_l, v_rev_r, v_ixt, v_ixl, v_ixr, v_kb_NoneType_bool, v_kb_NoneType_int, v_kb_NoneType_str, v_kb_NoneType_tuple, v_kb_NoneType_list, v_kb_NoneType_dict, v_kb_bool_bool, v_kb_bool_int, v_kb_bool_str, v_kb_bool_tuple, v_kb_bool_list, v_kb_bool_dict, v_kb_int_bool, v_kb_int_int, v_kb_int_str, v_kb_int_tuple, v_kb_int_list, v_kb_int_dict, v_kb_str_bool, v_kb_str_int, v_kb_str_str, v_kb_str_tuple, v_kb_str_list, v_kb_str_dict, v_kb_tuple_bool, v_kb_tuple_int, v_kb_tuple_str, v_kb_tuple_tuple, v_kb_tuple_list, v_kb_tuple_dict, v_kb_list_bool, v_kb_list_int, v_kb_list_str, v_kb_list_tuple, v_kb_list_list, v_kb_list_dict, v_kb_dict_bool, v_kb_dict_int, v_kb_dict_str, v_kb_dict_tuple, v_kb_dict_list, v_kb_dict_dict, v_isi_non, v_isi_bl, v_isi_int, v_isi_str, v_isi_tup, v_isi_lst, v_isi_dct, v_eq_bb, v_ne_bb, v_isNone_non, v_isNone_bl, v_isNone_int, v_isNone_str, v_isNone_tup, v_isNone_lst, List.map_cons, List.map_nil, List.length_cons, List.length_nil, List.cons_append, List.nil_append, List.replicate_succ, List.replicate_zero, List.getElem?_cons_zero, List.getElem?_cons_succ, List.set_cons_zero, List.set_cons_succ, Option.map_some, Nat.reduceSub, Nat.reduceAdd, Nat.reduceLT, Nat.reduceLeDiff, bigN, v_fdiv hm hm1, v_mod hmz, v_fdiv (show (0 : Int) < 2 by decide) (show (2 : Int) < 2 ^ 250 by decide), fd (show (0 : Int) ≤ 2 by decide), fd (Int.le_of_lt hm), fm (Int.le_of_lt hm), v_mul k1, v_mul k2, v_mul k3, v_mul k4, d1]
          rw [hx hl]
          exact ⟨_, _, rfl, .inl ⟨_, rfl⟩⟩
        · have d1 : decide (a % m * n + c % m < m) = false := decide_eq_false hl
          have F2 := hy hl
          refine .inl ?_
          simp only [v_bok, v_berr, v_sok, v_serr, v_nx, v_rt, v_bk, v_ct, v_er, v_ofs, v_var, v_slot_dat, v_slot_own, v_c, v_bin, v_kbin, v_op2, v_pk2, v_un, v_op1, v_pk1, v_peek_dat, v_peek_fr, v_peek_slot, v_pslot_own, v_pslot_dat, v_cnl, v_test, v_ktest, v_andT, v_kand1, v_kand0, v_orT, v_kor1, v_kor0, v_notT, v_knotT, v_and, v_kAnd1, v_kAnd0, v_or, v_kOr1, v_kOr0, v_not, v_knot, v_if, v_kif1, v_kif0, v_isNone, v_notNone, v_nil, v_cons, v_kcons, v_kcons2, v_fast, v_kfast, v_all0, v_all1, v_kall, v_kall2, v_force_dat, v_force_fr, v_force_slot, v_fslot_own, v_fslot_dat, v_tup, v_ktup, v_lst, v_klst, v_call, v_callF, v_at_ok, v_at_err, v_callB, v_vown, v_kcallB, v_vB, v_atB, v_meth, v_vM, v_methAt, v_vM2, v_vM3, v_append, v_pop, v_cb, v_kcb, v_pkL, v_peeks0, v_peeks1, v_cons22, v_isi, v_sl, v_ksl, v_ksl2, v_ksl3, v_slE_l, v_slE_t, v_slE_r, v_some, v_ksome, v_none, v_revSl, v_iter, v_it_l, v_it_r, v_it_t, v_rng1, v_rng2, v_lc, v_klc, v_klc2, v_yes, v_callV, v_vV, v_vV2, v_seq, v_skip, v_break, v_cont, v_raise, v_drop, v_kdrop, v_ret, v_ret_dat, v_ret_fr, v_ret_slot, v_rslot_own, v_rslot_dat, v_retN, v_ifS, v_kifS1, v_kifS0, v_set, v_put_dat, v_put_fr, v_put_slot, v_kput, v_asg, v_kasg, v_kasg2, v_tgN, v_tgNil, v_tgCons, v_ktg, v_tgT, v_par, v_kpar, v_kpar1, v_kpar2, v_kpar3, v_fix_dat, v_fix_fr, v_fix_slot, v_kfix, v_aug, v_aslot, v_kaug, v_kaug2, v_for, v_try, v_ktry_nx, v_ktry_rt, v_ktry_er, v_ktry2, v_ktry3, v_runF, v_endF_rt, v_endF_nx, v_endF_er, v_runB, v_endB_rt, v_endB_nx, v_add, v_sub, v_mul, v_mod, v_fdiv, v_neg, v_lt, v_cmp, v_eq, v_ne, v_absD, v_int1, v_len_l, v_len_t, v_len_r, v_list_l, v_list_t, v_rev_l, v_rev_r, v_ixt, v_ixl, v_ixr, v_kb_NoneType_bool, v_kb_NoneType_int, v_kb_NoneType_str, v_kb_NoneType_tuple, v_kb_NoneType_list, v_kb_NoneType_dict, v_kb_bool_bool, v_kb_bool_int, v_kb_bool_str, v_kb_bool_tuple, v_kb_bool_list, v_kb_bool_dict, v_kb_int_bool, v_kb_int_int, v_kb_int_str, v_kb_int_tuple, v_kb_int_list, v_kb_int_dict, v_kb_str_bool, v_kb_str_int, v_kb_str_str, v_kb_str_tuple, v_kb_str_list, v_kb_str_dict, v_kb_tuple_bool, v_kb_tuple_int, v_kb_tuple_str, v_kb_tuple_tuple, v_kb_tuple_list, v_kb_tuple_dict, v_kb_list_bool, v_kb_list_int, v_kb_list_str, v_kb_list_tuple, v_kb_list_list, v_kb_list_dict, v_kb_dict_bool, v_kb_dict_int, v_kb_dict_str, v_kb_dict_tuple, v_kb_dict_list, v_kb_dict_dict, v_isi_non, v_isi_bl, v_isi_int, v_isi_str, v_isi_tup, v_isi_lst, v_isi_dct, v_eq_bb, v_ne_bb, v_isNone_non, v_isNone_bl, v_isNone_int, v_isNone_str, v_isNone_tup, v_isNone_lst, List.map_cons, List.map_nil, List.length_cons, List.length_nil, List.cons_append, List.nil_append, List.replicate_succ, List.replicate_zero, List.getElem?_cons_zero, List.getElem?_cons_succ, List.set_cons_zero, List.set_cons_succ, Option.map_some, Nat.reduceSub, Nat.reduceAdd, Nat.reduceLT, Nat.reduceLeDiff, bigN, v_fdiv hm hm1, v_mod hmz, v_fdiv (show (0 : Int) < 2 by decide) (show (2 : Int) < 2 ^ 250 by decide), fd (show (0 : Int) ≤ 2 by decide), fd (Int.le_of_lt hm), fm (Int.le_of_lt hm), v_mul k1, v_mul k2, v_mul k3, v_mul k4, d1]
          exact ⟨(a % m).toNat, _, .inl rfl, by omega, _, _, _, _, _, _, rfl, F2, rfl⟩
      · refine .inl ⟨[.dat (.int n), .dat (.int m), .dat (.int a), .dat (.int c), .dat (.int found), x], by simp only [v_bok, v_berr, v_sok, v_serr, v_nx, v_rt, v_bk, v_ct, v_er, v_ofs, v_var, v_slot_dat, v_slot_own, v_c, v_bin, v_kbin, v_op2, v_pk2, v_un, v_op1, v_pk1, v_peek_dat, v_peek_fr, v_peek_slot, v_pslot_own, v_pslot_dat, v_cnl, v_test, v_ktest, v_andT, v_kand1, v_kand0, v_orT, v_kor1, v_kor0, v_notT, v_knotT, v_and, v_kAnd1, v_kAnd0, v_or, v_kOr1, v_kOr0, v_not, v_knot, v_if, v_kif1, v_kif0, v_isNone, v_notNone, v_nil, v_cons, v_kcons, v_kcons2, v_fast, v_kfast, v_all0, v_all1, v_kall, v_kall2, v_force_dat, v_force_fr, v_force_slot, v_fslot_own, v_fslot_dat, v_tup, v_ktup, v_lst, v_klst, v_call, v_callF, v_at_ok, v_at_err, v_callB, v_vown, v_kcallB, v_vB, v_atB, v_meth, v_vM, v_methAt, v_vM2, v_vM3, v_append, v_pop, v_cb, v_kcb, v_pkL, v_peeks0, v_peeks1, v_cons22, v_isi, v_sl, v_ksl, v_ksl2, v_ksl3, v_slE_l, v_slE_t, v_slE_r, v_some, v_ksome, v_none, v_revSl, v_iter, v_it_l, v_it_r, v_it_t, v_rng1, v_rng2, v_lc, v_klc, v_klc2, v_yes, v_callV, v_vV, v_vV2, v_seq, v_skip, v_break, v_cont, v_raise, v_drop, v_kdrop, v_ret, v_ret_dat, v_ret_fr, v_ret_slot, v_rslot_own, v_rslot_dat, v_retN, v_ifS, v_kifS1, v_kifS0, v_set, v_put_dat, v_put_fr, v_put_slot, v_kput, v_asg, v_kasg, v_kasg2, v_tgN, v_tgNil, v_tgCons, v_ktg, v_tgT, v_par, v_kpar, v_kpar1, v_kpar2, v_kpar3, v_fix_dat, v_fix_fr, v_fix_slot, v_kfix, v_aug, v_aslot, v_kaug, v_kaug2, v_for, v_try, v_ktry_nx, v_ktry_rt, v_ktry_er, v_ktry2, v_ktry3, v_runF, v_endF_rt, v_endF_nx, v_endF_er, v_runB, v_endB_rt, v_endB_nx, v_add, v_sub, v_mul, v_mod, v_fdiv, v_neg, v_lt, v_cmp, v_eq, v_ne, v_absD, v_int1, v_len_l, v_len_t, v_len_r, v_list_l, v_list_t, v_rev_l, v_rev_r, v_ixt, v_ixl, v_ixr, v_kb_NoneType_bool, v_kb_NoneType_int, v_kb_NoneType_str, v_kb_NoneType_tuple, v_kb_NoneType_list, v_kb_NoneType_dict, v_kb_bool_bool, v_kb_bool_int, v_kb_bool_str, v_kb_bool_tuple, v_kb_bool_list, v_kb_bool_dict, v_kb_int_bool, v_kb_int_int, v_kb_int_str, v_kb_int_tuple, v_kb_int_list, v_kb_int_dict, v_kb_str_bool, v_kb_str_int, v_kb_str_str, v_kb_str_tuple, v_kb_str_list, v_kb_str_dict, v_kb_tuple_bool, v_kb_tuple_int, v_kb_tuple_str, v_kb_tuple_tuple, v_kb_tuple_list, v_kb_tuple_dict, v_kb_list_bool, v_kb_list_int, v_kb_list_str, v_kb_list_tuple, v_kb_list_list, v_kb_list_dict, v_kb_dict_bool, v_kb_dict_int, v_kb_dict_str, v_kb_dict_tuple, v_kb_dict_list, v_kb_dict_dict, v_isi_non, v_isi_bl, v_isi_int, v_isi_str, v_isi_tup, v_isi_lst, v_isi_dct, v_eq_bb, v_ne_bb, v_isNone_non, v_isNone_bl, v_isNone_int, v_isNone_str, v_isNone_tup, v_isNone_lst, List.map_cons, List.map_nil, List.length_cons, List.length_nil, List.cons_append, List.nil_append, List.replicate_succ, List.replicate_zero, List.getElem?_cons_zero, List.getElem?_cons_succ, List.set_cons_zero, List.set_cons_succ, Option.map_some, Nat.reduceSub, Nat.reduceAdd, Nat.reduceLT, Nat.reduceLeDiff, bigN]; rw [decide_eq_false hn], .inr ⟨_, rfl, ?_⟩⟩
        have : n.toNat = 0 := by omega
        have e := h.tot
        rw [this] at e
        have e2 : found = tot := by rw [← e]; simp [S]
        rw [e2]
        rfl)
    ⟨n, m, a, c, 0, .emp, rfl, h, rfl⟩
  simp only [v_bok, v_berr, v_sok, v_serr, v_nx, v_rt, v_bk, v_ct, v_er, v_ofs, v_var, v_slot_dat, v_slot_own, v_c, v_bin, v_kbin, v_op2, v_pk2, v_un, v_op1, v_pk1, v_peek_dat, v_peek_fr, v_peek_slot, v_pslot_own, v_pslot_dat, v_cnl, v_test, v_ktest, v_andT, v_kand1, v_kand0, v_orT, v_kor1, v_kor0, v_notT, v_knotT, v_and, v_kAnd1, v_kAnd0, v_or, v_kOr1, v_kOr0, v_not, v_knot, v_if, v_kif1, v_kif0, v_isNone, v_notNone, v_nil, v_cons, v_kcons, v_kcons2, v_fast, v_kfast, v_all0, v_all1, v_kall, v_kall2, v_force_dat, v_force_fr, v_force_slot, v_fslot_own, v_fslot_dat, v_tup, v_ktup, v_lst, v_klst, v_call, v_callF, v_at_ok, v_at_err, v_callB, v_vown, v_kcallB, v_vB, v_atB, v_meth, v_vM, v_methAt, v_vM2, v_vM3, v_append, v_pop, v_cb, v_kcb, v_pkL, v_peeks0, v_peeks1, v_cons22, v_isi, v_sl, v_ksl, v_ksl2, v_ksl3, v_slE_l, v_slE_t, v_slE_r, v_some, v_ksome, v_none, v_revSl, v_iter, v_it_l, v_it_r, v_it_t, v_rng1, v_rng2, v_lc, v_klc, v_klc2, v_yes, v_callV, v_vV, v_vV2, v_seq, v_skip, v_break, v_cont, v_raise, v_drop, v_kdrop, v_ret, v_ret_dat, v_ret_fr, v_ret_slot, v_rslot_own, v_rslot_dat, v_retN, v_ifS, v_kifS1, v_kifS0, v_set, v_put_dat, v_put_fr, v_put_slot, v_kput, v_asg, v_kasg, v_kasg2, v_tgN, v_tgNil, v_tgCons, v_ktg, v_tgT, v_par, v_kpar, v_kpar1, v_kpar2, v_kpar3, v_fix_dat, v_fix_fr, v_fix_slot, v_kfix, v_aug, v_aslot, v_kaug, v_kaug2, v_for, v_try, v_ktry_nx, v_ktry_rt, v_ktry_er, v_ktry2, v_ktry3, v_runF, v_endF_rt, v_endF_nx, v_endF_er, v_runB, v_endB_rt, v_endB_nx, v_add, v_sub, v_mul, v_mod, v_fdiv, v_neg, v_lt, v_cmp, v_eq, v_ne, v_absD, v_int1, v_len_l, v_len_t, v_len_r, v_list_l, v_list_t, v_rev_l, v_rev_r, v_ixt, v_ixl, v_ixr, v_kb_NoneType_bool, v_kb_NoneType_int, v_kb_NoneType_str, v_kb_NoneType_tuple, v_kb_NoneType_list, v_kb_NoneType_dict, v_kb_bool_bool, v_kb_bool_int, v_kb_bool_str, v_kb_bool_tuple, v_kb_bool_list, v_kb_bool_dict, v_kb_int_bool, v_kb_int_int, v_kb_int_str, v_kb_int_tuple, v_kb_int_list, v_kb_int_dict, v_kb_str_bool, v_kb_str_int, v_kb_str_str, v_kb_str_tuple, v_kb_str_list, v_kb_str_dict, v_kb_tuple_bool, v_kb_tuple_int, v_kb_tuple_str, v_kb_tuple_tuple, v_kb_tuple_list, v_kb_tuple_dict, v_kb_list_bool, v_kb_list_int, v_kb_list_str, v_kb_list_tuple, v_kb_list_list, v_kb_list_dict, v_kb_dict_bool, v_kb_dict_int, v_kb_dict_str, v_kb_dict_tuple, v_kb_dict_list, v_kb_dict_dict, v_isi_non, v_isi_bl, v_isi_int, v_isi_str, v_isi_tup, v_isi_lst, v_isi_dct, v_eq_bb, v_ne_bb, v_isNone_non, v_isNone_bl, v_isNone_int, v_isNone_str, v_isNone_tup, v_isNone_lst, List.map_cons, List.map_nil, List.length_cons, List.length_nil, List.cons_append, List.nil_append, List.replicate_succ, List.replicate_zero, List.getElem?_cons_zero, List.getElem?_cons_succ, List.set_cons_zero, List.set_cons_succ, Option.map_some, Nat.reduceSub, Nat.reduceAdd, Nat.reduceLT, Nat.reduceLeDiff, bigN, nn_floor_by]
  rcases key with ⟨τ, e⟩ | ⟨τ, e, e2⟩
  · rw [e]
    simp only [v_bok, v_berr, v_sok, v_serr, v_nx, v_rt, v_bk, v_ct, v_er, v_ofs, v_var, v_slot_dat, v_slot_own, v_c, v_bin, v_kbin, v_op2, v_pk2, v_un, v_op1, v_pk1, v_peek_dat, v_peek_fr, v_peek_slot, v_pslot_own, v_pslot_dat, v_cnl, v_test, v_ktest, v_andT, v_kand1, v_kand0, v_orT, v_kor1, v_kor0, v_notT, v_knotT, v_and, v_kAnd1, v_kAnd0, v_or, v_kOr1, v_kOr0, v_not, v_knot, v_if, v_kif1, v_kif0, v_isNone, v_notNone, v_nil, v_cons, v_kcons, v_kcons2, v_fast, v_kfast, v_all0, v_all1, v_kall, v_kall2, v_force_dat, v_force_fr, v_force_slot, v_fslot_own, v_fslot_dat, v_tup, v_ktup, v_lst, v_klst, v_call, v_callF, v_at_ok, v_at_err, v_callB, v_vown, v_kcallB, v_vB, v_atB, v_meth, v_vM, v_methAt, v_vM2, v_vM3, v_append, v_pop, v_cb, v_kcb, v_pkL, v_peeks0, v_peeks1, v_cons22, v_isi, v_sl, v_ksl, v_ksl2, v_ksl3, v_slE_l, v_slE_t, v_slE_r, v_some, v_ksome, v_none, v_revSl, v_iter, v_it_l, v_it_r, v_it_t, v_rng1, v_rng2, v_lc, v_klc, v_klc2, v_yes, v_callV, v_vV, v_vV2, v_seq, v_skip, v_break, v_cont, v_raise, v_drop, v_kdrop, v_ret, v_ret_dat, v_ret_fr, v_ret_slot, v_rslot_own, v_rslot_dat, v_retN, v_ifS, v_kifS1, v_kifS0, v_set, v_put_dat, v_put_fr, v_put_slot, v_kput, v_asg, v_kasg, v_kasg2, v_tgN, v_tgNil, v_tgCons, v_ktg, v_tgT, v_par, v_kpar, v_kpar1, v_kpar2, v_kpar3, v_fix_dat, v_fix_fr, v_fix_slot, v_kfix, v_aug, v_aslot, v_kaug, v_kaug2, v_for, v_try, v_ktry_nx, v_ktry_rt, v_ktry_er, v_ktry2, v_ktry3, v_runF, v_endF_rt, v_endF_nx, v_endF_er, v_runB, v_endB_rt, v_endB_nx, v_add, v_sub, v_mul, v_mod, v_fdiv, v_neg, v_lt, v_cmp, v_eq, v_ne, v_absD, v_int1, v_len_l, v_len_t, v_len_r, v_list_l, v_list_t, v_rev_l, v_rev_r, v_ixt, v_ixl, v_ixr, v_kb_NoneType_bool, v_kb_NoneType_int, v_kb_NoneType_str, v_kb_NoneType_tuple, v_kb_NoneType_list, v_kb_NoneType_dict, v_kb_bool_bool, v_kb_bool_int, v_kb_bool_str, v_kb_bool_tuple, v_kb_bool_list, v_kb_bool_dict, v_kb_int_bool, v_kb_int_int, v_kb_int_str, v_kb_int_tuple, v_kb_int_list, v_kb_int_dict, v_kb_str_bool, v_kb_str_int, v_kb_str_str, v_kb_str_tuple, v_kb_str_list, v_kb_str_dict, v_kb_tuple_bool, v_kb_tuple_int, v_kb_tuple_str, v_kb_tuple_tuple, v_kb_tuple_list, v_kb_tuple_dict, v_kb_list_bool, v_kb_list_int, v_kb_list_str, v_kb_list_tuple, v_kb_list_list, v_kb_list_dict, v_kb_dict_bool, v_kb_dict_int, v_kb_dict_str, v_kb_dict_tuple, v_kb_dict_list, v_kb_dict_dict, v_isi_non, v_isi_bl, v_isi_int, v_isi_str, v_isi_tup, v_isi_lst, v_isi_dct, v_eq_bb, v_ne_bb, v_isNone_non, v_isNone_bl, v_isNone_int, v_isNone_str, v_isNone_tup, v_isNone_lst, List.map_cons, List.map_nil, List.length_cons, List.length_nil, List.cons_append, List.nil_append, List.replicate_succ, List.replicate_zero, List.getElem?_cons_zero, List.getElem?_cons_succ, List.set_cons_zero, List.set_cons_succ, Option.map_some, Nat.reduceSub, Nat.reduceAdd, Nat.reduceLT, Nat.reduceLeDiff, bigN]
  · rw [e]
    simp only [v_bok, v_berr, v_sok, v_serr, v_nx, v_rt, v_bk, v_ct, v_er, v_ofs, v_var, v_slot_dat, v_slot_own, v_c, v_bin, v_kbin, v_op2, v_pk2, v_un, v_op1, v_pk1, v_peek_dat, v_peek_fr, v_peek_slot, v_pslot_own, v_pslot_dat, v_cnl, v_test, v_ktest, v_andT, v_kand1, v_kand0, v_orT, v_kor1, v_kor0, v_notT, v_knotT, v_and, v_kAnd1, v_kAnd0, v_or, v_kOr1, v_kOr0, v_not, v_knot, v_if, v_kif1, v_kif0, v_isNone, v_notNone, v_nil, v_cons, v_kcons, v_kcons2, v_fast, v_kfast, v_all0, v_all1, v_kall, v_kall2, v_force_dat, v_force_fr, v_force_slot, v_fslot_own, v_fslot_dat, v_tup, v_ktup, v_lst, v_klst, v_call, v_callF, v_at_ok, v_at_err, v_callB, v_vown, v_kcallB, v_vB, v_atB, v_meth, v_vM, v_methAt, v_vM2, v_vM3, v_append, v_pop, v_cb, v_kcb, v_pkL, v_peeks0, v_peeks1, v_cons22, v_isi, v_sl, v_ksl, v_ksl2, v_ksl3, v_slE_l, v_slE_t, v_slE_r, v_some, v_ksome, v_none, v_revSl, v_iter, v_it_l, v_it_r, v_it_t, v_rng1, v_rng2, v_lc, v_klc, v_klc2, v_yes, v_callV, v_vV, v_vV2, v_seq, v_skip, v_break, v_cont, v_raise, v_drop, v_kdrop, v_ret, v_ret_dat, v_ret_fr, v_ret_slot, v_rslot_own, v_rslot_dat, v_retN, v_ifS, v_kifS1, v_kifS0, v_set, v_put_dat, v_put_fr, v_put_slot, v_kput, v_asg, v_kasg, v_kasg2, v_tgN, v_tgNil, v_tgCons, v_ktg, v_tgT, v_par, v_kpar, v_kpar1, v_kpar2, v_kpar3, v_fix_dat, v_fix_fr, v_fix_slot, v_kfix, v_aug, v_aslot, v_kaug, v_kaug2, v_for, v_try, v_ktry_nx, v_ktry_rt, v_ktry_er, v_ktry2, v_ktry3, v_runF, v_endF_rt, v_endF_nx, v_endF_er, v_runB, v_endB_rt, v_endB_nx, v_add, v_sub, v_mul, v_mod, v_fdiv, v_neg, v_lt, v_cmp, v_eq, v_ne, v_absD, v_int1, v_len_l, v_len_t, v_len_r, v_list_l, v_list_t, v_rev_l, v_rev_r, v_ixt, v_ixl, v_ixr, v_kb_NoneType_bool, v_kb_NoneType_int, v_kb_NoneType_str, v_kb_NoneType_tuple, v_kb_NoneType_list, v_kb_NoneType_dict, v_kb_bool_bool, v_kb_bool_int, v_kb_bool_str, v_kb_bool_tuple, v_kb_bool_list, v_kb_bool_dict, v_kb_int_bool, v_kb_int_int, v_kb_int_str, v_kb_int_tuple, v_kb_int_list, v_kb_int_dict, v_kb_str_bool, v_kb_str_int, v_kb_str_str, v_kb_str_tuple, v_kb_str_list, v_kb_str_dict, v_kb_tuple_bool, v_kb_tuple_int, v_kb_tuple_str, v_kb_tuple_tuple, v_kb_tuple_list, v_kb_tuple_dict, v_kb_list_bool, v_kb_list_int, v_kb_list_str, v_kb_list_tuple, v_kb_list_list, v_kb_list_dict, v_kb_dict_bool, v_kb_dict_int, v_kb_dict_str, v_kb_dict_tuple, v_kb_dict_list, v_kb_dict_dict, v_isi_non, v_isi_bl, v_isi_int, v_isi_str, v_isi_tup, v_isi_lst, v_isi_dct, v_eq_bb, v_ne_bb, v_isNone_non, v_isNone_bl, v_isNone_int, v_isNone_str, v_isNone_tup, v_isNone_lst, List.map_cons, List.map_nil, List.length_cons, List.length_nil, List.cons_append, List.nil_append, List.replicate_succ, List.replicate_zero, List.getElem?_cons_zero, List.getElem?_cons_succ, List.set_cons_zero, List.set_cons_succ, Option.map_some, Nat.reduceSub, Nat.reduceAdd, Nat.reduceLT, Nat.reduceLeDiff, bigN, e2]
end Lw

set_option maxHeartbeats 1000000
namespace Lw
open PySem DL
def ckS (a b : SV) : DS := [a, b]
theorem e_check {ds : List D} (hp : ∀ d ∈ ds, plain d = true) (hl : ds.length ≤ 1000) : F_check_integers [.lst ds] = if ds.all isInt then .ok (.dat .non) else .err 2 := by
  have hc : compL [1] (tgN 1) mYes (mCall 1 F_is_integer (mCons (mVar 1) mNil)) ds [] (ckS (.dat (.lst ds)) .emp) = .ok (ds.map fun d => .bl (isInt d)) (ckS (.dat (.lst ds)) .emp) := by
    refine comp_all (fun d => .bl (isInt d)) (fun x hx => ?_) (by show _ ≤ 1000000; omega)
    refine ⟨ckS (.dat (.lst ds)) (.dat x), ckS (.dat (.lst ds)) (.dat x), .dat (.bl (isInt x)), ckS (.dat (.lst ds)) (.dat x), ckS (.dat (.lst ds)) (.dat x), rfl, rfl, ?_, rfl, rfl⟩
    have := e_is_integer (hp x hx)
    simp only [v_bok, v_berr, v_sok, v_serr, v_nx, v_rt, v_bk, v_ct, v_er, v_ofs, v_var, v_slot_dat, v_slot_own, v_c, v_bin, v_kbin, v_op2, v_pk2, v_un, v_op1, v_pk1, v_peek_dat, v_peek_fr, v_peek_slot, v_pslot_own, v_pslot_dat, v_cnl, v_test, v_ktest, v_andT, v_kand1, v_kand0, v_orT, v_kor1, v_kor0, v_notT, v_knotT, v_and, v_kAnd1, v_kAnd0, v_or, v_kOr1, v_kOr0, v_not, v_knot, v_if, v_kif1, v_kif0, v_isNone, v_notNone, v_nil, v_cons, v_kcons, v_kcons2, v_fast, v_kfast, v_all0, v_all1, v_kall, v_kall2, v_force_dat, v_force_fr, v_force_slot, v_fslot_own, v_fslot_dat, v_tup, v_ktup, v_lst, v_klst, v_call, v_callF, v_at_ok, v_at_err, v_callB, v_vown, v_kcallB, v_vB, v_atB, v_meth, v_vM, v_methAt, v_vM2, v_vM3, v_append, v_pop, v_cb, v_kcb, v_pkL, v_peeks0, v_peeks1, v_cons22, v_isi, v_sl, v_ksl, v_ksl2, v_ksl3, v_slE_l, v_slE_t, v_slE_r, v_some, v_ksome, v_none, v_revSl, v_iter, v_it_l, v_it_r, v_it_t, v_rng1, v_rng2, v_lc, v_klc, v_klc2, v_yes, v_callV, v_vV, v_vV2, v_seq, v_skip, v_break, v_cont, v_raise, v_drop, v_kdrop, v_ret, v_ret_dat, v_ret_fr, v_ret_slot, v_rslot_own, v_rslot_dat, v_retN, v_ifS, v_kifS1, v_kifS0, v_set, v_put_dat, v_put_fr, v_put_slot, v_kput, v_asg, v_kasg, v_kasg2, v_tgN, v_tgNil, v_tgCons, v_ktg, v_tgT, v_par, v_kpar, v_kpar1, v_kpar2, v_kpar3, v_fix_dat, v_fix_fr, v_fix_slot, v_kfix, v_aug, v_aslot, v_kaug, v_kaug2, v_for, v_try, v_ktry_nx, v_ktry_rt, v_ktry_er, v_ktry2, v_ktry3, v_runF, v_endF_rt, v_endF_nx, v_endF_er, v_runB, v_endB_rt, v_endB_nx, v_add, v_sub, v_mul, v_mod, v_fdiv, v_neg, v_lt, v_cmp, v_eq, v_ne, v_absD, v_int1, v_len_l, v_len_t, v_len_r, v_list_l, v_list_t, v_rev_l, v_rev_r, v_ixt, v_ixl, v_ixr, v_kb_NoneType_bool, v_kb_NoneType_int, v_kb_NoneType_str, v_kb_NoneType_tuple, v_kb_NoneType_list, v_kb_NoneType_dict, v_kb_bool_bool, v_kb_bool_int, v_kb_bool_str, v_kb_bool_tuple, v_kb_bool_list, v_kb_bool_dict, v_kb_int_bool, v_kb_int_int, v_kb_int_str, v_kb_int_tuple, v_kb_int_list, v_kb_int_dict, v_kb_str_bool, v_kb_str_int, v_kb_str_str, v_kb_str_tuple, v_kb_str_list, v_kb_str_dict, v_kb_tuple_bool, v_kb_tuple_int, v_kb_tuple_str, v_kb_tuple_tuple, v_kb_tuple_list, v_kb_tuple_dict, v_kb_list_bool, v_kb_list_int, v_kb_list_str, v_kb_list_tuple, v_kb_list_list, v_kb_list_dict, v_kb_dict_bool, v_kb_dict_int, v_kb_dict_str, v_kb_dict_tuple, v_kb_dict_list, v_kb_dict_dict, v_isi_non, v_isi_bl, v_isi_int, v_isi_str, v_isi_tup, v_isi_lst, v_isi_dct, v_eq_bb, v_ne_bb, v_isNone_non, v_isNone_bl, v_isNone_int, v_isNone_str, v_isNone_tup, v_isNone_lst, List.map_cons, List.map_nil, List.length_cons, List.length_nil, List.cons_append, List.nil_append, List.replicate_succ, List.replicate_zero, List.getElem?_cons_zero, List.getElem?_cons_succ, List.set_cons_zero, List.set_cons_succ, Option.map_some, Nat.reduceSub, Nat.reduceAdd, Nat.reduceLT, Nat.reduceLeDiff, bigN, ckS, this]
  unfold F_check_integers M_check_integers
  unfold ckS at hc
  cases hb : ds.all isInt
  · simp only [v_bok, v_berr, v_sok, v_serr, v_nx, v_rt, v_bk, v_ct, v_er, v_ofs, v_var, v_slot_dat, v_slot_own, v_c, v_bin, v_kbin, v_op2, v_pk2, v_un, v_op1, v_pk1, v_peek_dat, v_peek_fr, v_peek_slot, v_pslot_own, v_pslot_dat, v_cnl, v_test, v_ktest, v_andT, v_kand1, v_kand0, v_orT, v_kor1, v_kor0, v_notT, v_knotT, v_and, v_kAnd1, v_kAnd0, v_or, v_kOr1, v_kOr0, v_not, v_knot, v_if, v_kif1, v_kif0, v_isNone, v_notNone, v_nil, v_cons, v_kcons, v_kcons2, v_fast, v_kfast, v_all0, v_all1, v_kall, v_kall2, v_force_dat, v_force_fr, v_force_slot, v_fslot_own, v_fslot_dat, v_tup, v_ktup, v_lst, v_klst, v_call, v_callF, v_at_ok, v_at_err, v_callB, v_vown, v_kcallB, v_vB, v_atB, v_meth, v_vM, v_methAt, v_vM2, v_vM3, v_append, v_pop, v_cb, v_kcb, v_pkL, v_peeks0, v_peeks1, v_cons22, v_isi, v_sl, v_ksl, v_ksl2, v_ksl3, v_slE_l, v_slE_t, v_slE_r, v_some, v_ksome, v_none, v_revSl, v_iter, v_it_l, v_it_r, v_it_t, v_rng1, v_rng2, v_lc, v_klc, v_klc2, v_yes, v_callV, v_vV, v_vV2, v_seq, v_skip, v_break, v_cont, v_raise, v_drop, v_kdrop, v_ret, v_ret_dat, v_ret_fr, v_ret_slot, v_rslot_own, v_rslot_dat, v_retN, v_ifS, v_kifS1, v_kifS0, v_set, v_put_dat, v_put_fr, v_put_slot, v_kput, v_asg, v_kasg, v_kasg2, v_tgN, v_tgNil, v_tgCons, v_ktg, v_tgT, v_par, v_kpar, v_kpar1, v_kpar2, v_kpar3, v_fix_dat, v_fix_fr, v_fix_slot, v_kfix, v_aug, v_aslot, v_kaug, v_kaug2, v_for, v_try, v_ktry_nx, v_ktry_rt, v_ktry_er, v_ktry2, v_ktry3, v_runF, v_endF_rt, v_endF_nx, v_endF_er, v_runB, v_endB_rt, v_endB_nx, v_add, v_sub, v_mul, v_mod, v_fdiv, v_neg, v_lt, v_cmp, v_eq, v_ne, v_absD, v_int1, v_len_l, v_len_t, v_len_r, v_list_l, v_list_t, v_rev_l, v_rev_r, v_ixt, v_ixl, v_ixr, v_kb_NoneType_bool, v_kb_NoneType_int, v_kb_NoneType_str, v_kb_NoneType_tuple, v_kb_NoneType_list, v_kb_NoneType_dict, v_kb_bool_bool, v_kb_bool_int, v_kb_bool_str, v_kb_bool_tuple, v_kb_bool_list, v_kb_bool_dict, v_kb_int_bool, v_kb_int_int, v_kb_int_str, v_kb_int_tuple, v_kb_int_list, v_kb_int_dict, v_kb_str_bool, v_kb_str_int, v_kb_str_str, v_kb_str_tuple, v_kb_str_list, v_kb_str_dict, v_kb_tuple_bool, v_kb_tuple_int, v_kb_tuple_str, v_kb_tuple_tuple, v_kb_tuple_list, v_kb_tuple_dict, v_kb_list_bool, v_kb_list_int, v_kb_list_str, v_kb_list_tuple, v_kb_list_list, v_kb_list_dict, v_kb_dict_bool, v_kb_dict_int, v_kb_dict_str, v_kb_dict_tuple, v_kb_dict_list, v_kb_dict_dict, v_isi_non, v_isi_bl, v_isi_int, v_isi_str, v_isi_tup, v_isi_lst, v_isi_dct, v_eq_bb, v_ne_bb, v_isNone_non, v_isNone_bl, v_isNone_int, v_isNone_str, v_isNone_tup, v_isNone_lst, List.map_cons, List.map_nil, List.length_cons, List.length_nil, List.cons_append, List.nil_append, List.replicate_succ, List.replicate_zero, List.getElem?_cons_zero, List.getElem?_cons_succ, List.set_cons_zero, List.set_cons_succ, Option.map_some, Nat.reduceSub, Nat.reduceAdd, Nat.reduceLT, Nat.reduceLeDiff, bigN, hc, allD_bl, hb, Bool.not_false]
    rfl
  · simp only [v_bok, v_berr, v_sok, v_serr, v_nx, v_rt, v_bk, v_ct, v_er, v_ofs, v_var, v_slot_dat, v_slot_own, v_c, v_bin, v_kbin, v_op2, v_pk2, v_un, v_op1, v_pk1, v_peek_dat, v_peek_fr, v_peek_slot, v_pslot_own, v_pslot_dat, v_cnl, v_test, v_ktest, v_andT, v_kand1, v_kand0, v_orT, v_kor1, v_kor0, v_notT, v_knotT, v_and, v_kAnd1, v_kAnd0, v_or, v_kOr1, v_kOr0, v_not, v_knot, v_if, v_kif1, v_kif0, v_isNone, v_notNone, v_nil, v_cons, v_kcons, v_kcons2, v_fast, v_kfast, v_all0, v_all1, v_kall, v_kall2, v_force_dat, v_force_fr, v_force_slot, v_fslot_own, v_fslot_dat, v_tup, v_ktup, v_lst, v_klst, v_call, v_callF, v_at_ok, v_at_err, v_callB, v_vown, v_kcallB, v_vB, v_atB, v_meth, v_vM, v_methAt, v_vM2, v_vM3, v_append, v_pop, v_cb, v_kcb, v_pkL, v_peeks0, v_peeks1, v_cons22, v_isi, v_sl, v_ksl, v_ksl2, v_ksl3, v_slE_l, v_slE_t, v_slE_r, v_some, v_ksome, v_none, v_revSl, v_iter, v_it_l, v_it_r, v_it_t, v_rng1, v_rng2, v_lc, v_klc, v_klc2, v_yes, v_callV, v_vV, v_vV2, v_seq, v_skip, v_break, v_cont, v_raise, v_drop, v_kdrop, v_ret, v_ret_dat, v_ret_fr, v_ret_slot, v_rslot_own, v_rslot_dat, v_retN, v_ifS, v_kifS1, v_kifS0, v_set, v_put_dat, v_put_fr, v_put_slot, v_kput, v_asg, v_kasg, v_kasg2, v_tgN, v_tgNil, v_tgCons, v_ktg, v_tgT, v_par, v_kpar, v_kpar1, v_kpar2, v_kpar3, v_fix_dat, v_fix_fr, v_fix_slot, v_kfix, v_aug, v_aslot, v_kaug, v_kaug2, v_for, v_try, v_ktry_nx, v_ktry_rt, v_ktry_er, v_ktry2, v_ktry3, v_runF, v_endF_rt, v_endF_nx, v_endF_er, v_runB, v_endB_rt, v_endB_nx, v_add, v_sub, v_mul, v_mod, v_fdiv, v_neg, v_lt, v_cmp, v_eq, v_ne, v_absD, v_int1, v_len_l, v_len_t, v_len_r, v_list_l, v_list_t, v_rev_l, v_rev_r, v_ixt, v_ixl, v_ixr, v_kb_NoneType_bool, v_kb_NoneType_int, v_kb_NoneType_str, v_kb_NoneType_tuple, v_kb_NoneType_list, v_kb_NoneType_dict, v_kb_bool_bool, v_kb_bool_int, v_kb_bool_str, v_kb_bool_tuple, v_kb_bool_list, v_kb_bool_dict, v_kb_int_bool, v_kb_int_int, v_kb_int_str, v_kb_int_tuple, v_kb_int_list, v_kb_int_dict, v_kb_str_bool, v_kb_str_int, v_kb_str_str, v_kb_str_tuple, v_kb_str_list, v_kb_str_dict, v_kb_tuple_bool, v_kb_tuple_int, v_kb_tuple_str, v_kb_tuple_tuple, v_kb_tuple_list, v_kb_tuple_dict, v_kb_list_bool, v_kb_list_int, v_kb_list_str, v_kb_list_tuple, v_kb_list_list, v_kb_list_dict, v_kb_dict_bool, v_kb_dict_int, v_kb_dict_str, v_kb_dict_tuple, v_kb_dict_list, v_kb_dict_dict, v_isi_non, v_isi_bl, v_isi_int, v_isi_str, v_isi_tup, v_isi_lst, v_isi_dct, v_eq_bb, v_ne_bb, v_isNone_non, v_isNone_bl, v_isNone_int, v_isNone_str, v_isNone_tup, v_isNone_lst, List.map_cons, List.map_nil, List.length_cons, List.length_nil, List.cons_append, List.nil_append, List.replicate_succ, List.replicate_zero, List.getElem?_cons_zero, List.getElem?_cons_succ, List.set_cons_zero, List.set_cons_succ, Option.map_some, Nat.reduceSub, Nat.reduceAdd, Nat.reduceLT, Nat.reduceLeDiff, bigN, hc, allD_bl, hb, Bool.not_true]
    rfl
theorem ediv_bound {a m B : Int} (hm : 0 < m) (h0 : -B < a) (h1 : a < B) : -B < a / m ∧ a / m < B := by
  constructor
  · rcases Int.lt_or_le a 0 with z | z
    · have h2 : a ≤ a / m := by
        have h3 := Int.mul_ediv_add_emod a m
        have h4 := Int.emod_nonneg a (show m ≠ 0 by omega)
        have h5 := Int.emod_lt_of_pos a hm
        have h6 : a / m < 0 := Int.ediv_neg_of_neg_of_pos z hm
        have h7 : m * (a / m) ≤ 1 * (a / m) := Int.mul_le_mul_of_nonpos_right (by omega) (by omega)
        by_cases h8 : m = 1
        · rw [h8, Int.ediv_one]; exact Int.le_refl _
        · by_cases h9 : a / m < a
          · have h10 : a / m + 1 ≤ a := h9
            have h11 : (m - 1) * (a / m) ≤ (m - 1) * (-1) := Int.mul_le_mul_of_nonneg_left (by omega) (by omega)
            have h12 : m * (a / m) = (m - 1) * (a / m) + a / m := by grind
            omega
          · omega
      exact Int.lt_of_lt_of_le h0 h2
    · have := Int.ediv_nonneg z (show 0 ≤ m by omega); omega
  · rcases Int.lt_or_le a 0 with z | z
    · have := Int.ediv_neg_of_neg_of_pos z hm; omega
    · have := Int.ediv_le_self m z; omega
/-- what floor_sum may be asked -/
structure FA (n m a : Int) : Prop where
  n0 : 0 ≤ n
  n1 : n < 18446744073709551616
  m0 : 0 < m
  m1 : m < 18446744073709551616
  a0 : -18446744073709551616 < a
  a1 : a < 18446744073709551616
theorem e_floor_sum {n m a c : Int} (h : FA n m a) : F_floor_sum [.int n, .int m, .int a, .int c] = .ok (.dat (.int (S m a c n.toNat))) := by
  obtain ⟨n0, n1, hm, m1, a0, a1⟩ := h
  have hk := (e_check (ds := [.int n, .int m, .int a, .int c]) (fun d hd => by simp only [List.mem_cons, List.not_mem_nil, or_false] at hd; rcases hd with rfl | rfl | rfl | rfl <;> rfl) (by simp)).trans (if_pos rfl)
  have hN : ((n.toNat : Nat) : Int) = n := Int.toNat_of_nonneg n0
  have fb := e_floor_by (n := n) (m := m) (a := a % m) (c := c % m) ⟨n0, n1, hm, m1, Int.emod_nonneg _ (by omega), by have := Int.emod_lt_of_pos a hm; omega, Int.emod_nonneg _ (by omega), by simp⟩
  have hs := S_split hm a c n.toNat
  rw [← T_div n.toNat, hN] at hs
  obtain ⟨b0, b1⟩ := ediv_bound hm a0 a1
  have k1 : L2.CMul n (n - 1) := c_l n0 n1
  have k2 : L2.CMul (n * (n - 1) / 2) (a / m) := c_r b0 b1
  have k3 : L2.CMul n (c / m) := c_l n0 n1
  have hm1 := lt250 m1
  have hmz : m ≠ 0 := by omega
  unfold F_floor_sum M_floor_sum
  simp only [v_bok, v_berr, v_sok, v_serr, v_nx, v_rt, v_bk, v_ct, v_er, v_ofs, v_var, v_slot_dat, v_slot_own, v_c, v_bin, v_kbin, v_op2, v_pk2, v_un, v_op1, v_pk1, v_peek_dat, v_peek_fr, v_peek_slot, v_pslot_own, v_pslot_dat, v_cnl, v_test, v_ktest, v_andT, v_kand1, v_kand0, v_orT, v_kor1, v_kor0, v_notT, v_knotT, v_and, v_kAnd1, v_kAnd0, v_or, v_kOr1, v_kOr0, v_not, v_knot, v_if, v_kif1, v_kif0, v_isNone, v_notNone, v_nil, v_cons, v_kcons, v_kcons2, v_fast, v_kfast, v_all0, v_all1, v_kall, v_kall2, v_force_dat, v_force_fr, v_force_slot, v_fslot_own, v_fslot_dat, v_tup, v_ktup, v_lst, v_klst, v_call, v_callF, v_at_ok, v_at_err, v_callB, v_vown, v_kcallB, v_vB, v_atB, v_meth, v_vM, v_methAt, v_vM2, v_vM3, v_append, v_pop, v_cb, v_kcb, v_pkL, v_peeks0, v_peeks1, v_cons22, v_isi, v_sl, v_ksl, v_ksl2, v_ksl3, v_slE_l, v_slE_t, v_slE_r, v_some, v_ksome, v_none, v_revSl, v_iter, v_it_l, v_it_r, v_it_t, v_rng1, v_rng2, v_lc, v_klc, v_klc2, v_yes, v_callV, v_vV, v_vV2, v_seq, v_skip, v_break, v_cont, v_raise, v_drop, v_kdrop, v_ret, v_ret_dat, v_ret_fr, v_ret_slot, v_rslot_own, v_rslot_dat, v_retN, v_ifS, v_kifS1, v_kifS0, v_set, v_put_dat, v_put_fr, v_put_slot, v_kput, v_asg, v_kasg, v_kasg2, v_tgN, v_tgNil, v_tgCons, v_ktg, v_tgT, v_par, v_kpar, v_kpar1, v_kpar2, v_kpar3, v_fix_dat, v_fix_fr, v_fix_slot, v_kfix, v_aug, v_aslot, v_kaug, v_kaug2, v_for, v_try, v_ktry_nx, v_ktry_rt, v_ktry_er, v_ktry2, v_ktry3, v_runF, v_endF_rt, v_endF_nx, v_endF_er, v_runB, v_endB_rt, v_endB_nx, v_add, v_sub, v_mul, v_mod, v_fdiv, v_neg, v_lt, v_cmp, v_eq, v_ne, v_absD, v_int1, v_len_l, v_len_t, v_len_r, v_list_l, v_list_t, v_rev_l, v_rev_r, v_ixt, v_ixl, v_ixr, v_kb_NoneType_bool, v_kb_NoneType_int, v_kb_NoneType_str, v_kb_NoneType_tuple, v_kb_NoneType_list, v_kb_NoneType_dict, v_kb_bool_bool, v_kb_bool_int, v_kb_bool_str, v_kb_bool_tuple, v_kb_bool_list, v_kb_bool_dict, v_kb_int_bool, v_kb_int_int, v_kb_int_str, v_kb_int_tuple, v_kb_int_list, v_kb_int_dict, v_kb_str_bool, v_kb_str_int, v_kb_str_str, v_kb_str_tuple, v_kb_str_list, v_kb_str_dict, v_kb_tuple_bool, v_kb_tuple_int, v_kb_tuple_str, v_kb_tuple_tuple, v_kb_tuple_list, v_kb_tuple_dict, v_kb_list_bool, v_kb_list_int, v_kb_list_str, v_kb_list_tuple, v_kb_list_list, v_kb_list_dict, v_kb_dict_bool, v_kb_dict_int, v_kb_dict_str, v_kb_dict_tuple, v_kb_dict_list, v_kb_dict_dict, v_isi_non, v_isi_bl, v_isi_int, v_isi_str, v_isi_tup, v_isi_lst, v_isi_dct, v_eq_bb, v_ne_bb, v_isNone_non, v_isNone_bl, v_isNone_int, v_isNone_str, v_isNone_tup, v_isNone_lst, List.map_cons, List.map_nil, List.length_cons, List.length_nil, List.cons_append, List.nil_append, List.replicate_succ, List.replicate_zero, List.getElem?_cons_zero, List.getElem?_cons_succ, List.set_cons_zero, List.set_cons_succ, Option.map_some, Nat.reduceSub, Nat.reduceAdd, Nat.reduceLT, Nat.reduceLeDiff, bigN, hk, decide_eq_false (show ¬ n < 0 by omega), decide_eq_false (show ¬ m < 1 by omega), v_fdiv hm hm1, v_mod hmz, v_fdiv (show (0 : Int) < 2 by decide) (show (2 : Int) < 2 ^ 250 by decide), fd (show (0 : Int) ≤ 2 by decide), fd (Int.le_of_lt hm), fm (Int.le_of_lt hm), v_mul k1, v_mul k2, v_mul k3, fb]
  rw [hs]
theorem e_told0 {n m a c : Int} (h : FA n m a) : F_law_told [.int 0, .tup [.int n, .int m, .int a, .int c]] = .ok (.dat (.int (S m a c n.toNat))) := by
  have hf := e_floor_sum (c := c) h
  have e0 : ((0 : Int) == 0) = true := rfl
  unfold F_law_told M_law_told
  simp only [v_bok, v_berr, v_sok, v_serr, v_nx, v_rt, v_bk, v_ct, v_er, v_ofs, v_var, v_slot_dat, v_slot_own, v_c, v_bin, v_kbin, v_op2, v_pk2, v_un, v_op1, v_pk1, v_peek_dat, v_peek_fr, v_peek_slot, v_pslot_own, v_pslot_dat, v_cnl, v_test, v_ktest, v_andT, v_kand1, v_kand0, v_orT, v_kor1, v_kor0, v_notT, v_knotT, v_and, v_kAnd1, v_kAnd0, v_or, v_kOr1, v_kOr0, v_not, v_knot, v_if, v_kif1, v_kif0, v_isNone, v_notNone, v_nil, v_cons, v_kcons, v_kcons2, v_fast, v_kfast, v_all0, v_all1, v_kall, v_kall2, v_force_dat, v_force_fr, v_force_slot, v_fslot_own, v_fslot_dat, v_tup, v_ktup, v_lst, v_klst, v_call, v_callF, v_at_ok, v_at_err, v_callB, v_vown, v_kcallB, v_vB, v_atB, v_meth, v_vM, v_methAt, v_vM2, v_vM3, v_append, v_pop, v_cb, v_kcb, v_pkL, v_peeks0, v_peeks1, v_cons22, v_isi, v_sl, v_ksl, v_ksl2, v_ksl3, v_slE_l, v_slE_t, v_slE_r, v_some, v_ksome, v_none, v_revSl, v_iter, v_it_l, v_it_r, v_it_t, v_rng1, v_rng2, v_lc, v_klc, v_klc2, v_yes, v_callV, v_vV, v_vV2, v_seq, v_skip, v_break, v_cont, v_raise, v_drop, v_kdrop, v_ret, v_ret_dat, v_ret_fr, v_ret_slot, v_rslot_own, v_rslot_dat, v_retN, v_ifS, v_kifS1, v_kifS0, v_set, v_put_dat, v_put_fr, v_put_slot, v_kput, v_asg, v_kasg, v_kasg2, v_tgN, v_tgNil, v_tgCons, v_ktg, v_tgT, v_par, v_kpar, v_kpar1, v_kpar2, v_kpar3, v_fix_dat, v_fix_fr, v_fix_slot, v_kfix, v_aug, v_aslot, v_kaug, v_kaug2, v_for, v_try, v_ktry_nx, v_ktry_rt, v_ktry_er, v_ktry2, v_ktry3, v_runF, v_endF_rt, v_endF_nx, v_endF_er, v_runB, v_endB_rt, v_endB_nx, v_add, v_sub, v_mul, v_mod, v_fdiv, v_neg, v_lt, v_cmp, v_eq, v_ne, v_absD, v_int1, v_len_l, v_len_t, v_len_r, v_list_l, v_list_t, v_rev_l, v_rev_r, v_ixt, v_ixl, v_ixr, v_kb_NoneType_bool, v_kb_NoneType_int, v_kb_NoneType_str, v_kb_NoneType_tuple, v_kb_NoneType_list, v_kb_NoneType_dict, v_kb_bool_bool, v_kb_bool_int, v_kb_bool_str, v_kb_bool_tuple, v_kb_bool_list, v_kb_bool_dict, v_kb_int_bool, v_kb_int_int, v_kb_int_str, v_kb_int_tuple, v_kb_int_list, v_kb_int_dict, v_kb_str_bool, v_kb_str_int, v_kb_str_str, v_kb_str_tuple, v_kb_str_list, v_kb_str_dict, v_kb_tuple_bool, v_kb_tuple_int, v_kb_tuple_str, v_kb_tuple_tuple, v_kb_tuple_list, v_kb_tuple_dict, v_kb_list_bool, v_kb_list_int, v_kb_list_str, v_kb_list_tuple, v_kb_list_list, v_kb_list_dict, v_kb_dict_bool, v_kb_dict_int, v_kb_dict_str, v_kb_dict_tuple, v_kb_dict_list, v_kb_dict_dict, v_isi_non, v_isi_bl, v_isi_int, v_isi_str, v_isi_tup, v_isi_lst, v_isi_dct, v_eq_bb, v_ne_bb, v_isNone_non, v_isNone_bl, v_isNone_int, v_isNone_str, v_isNone_tup, v_isNone_lst, List.map_cons, List.map_nil, List.length_cons, List.length_nil, List.cons_append, List.nil_append, List.replicate_succ, List.replicate_zero, List.getElem?_cons_zero, List.getElem?_cons_succ, List.set_cons_zero, List.set_cons_succ, Option.map_some, Nat.reduceSub, Nat.reduceAdd, Nat.reduceLT, Nat.reduceLeDiff, bigN, hf, e0]
theorem e_fs_bad {x y z w : D} (hp : ∀ d ∈ [x, y, z, w], plain d = true) (hb : [x, y, z, w].all isInt = false) : F_floor_sum [x, y, z, w] = .err 2 := by
  have hk := e_check hp (by simp)
  rw [hb] at hk
  have hk2 : F_check_integers [.lst [x, y, z, w]] = .err 2 := hk
  unfold F_floor_sum M_floor_sum
  simp only [v_bok, v_berr, v_sok, v_serr, v_nx, v_rt, v_bk, v_ct, v_er, v_ofs, v_var, v_slot_dat, v_slot_own, v_c, v_bin, v_kbin, v_op2, v_pk2, v_un, v_op1, v_pk1, v_peek_dat, v_peek_fr, v_peek_slot, v_pslot_own, v_pslot_dat, v_cnl, v_test, v_ktest, v_andT, v_kand1, v_kand0, v_orT, v_kor1, v_kor0, v_notT, v_knotT, v_and, v_kAnd1, v_kAnd0, v_or, v_kOr1, v_kOr0, v_not, v_knot, v_if, v_kif1, v_kif0, v_isNone, v_notNone, v_nil, v_cons, v_kcons, v_kcons2, v_fast, v_kfast, v_all0, v_all1, v_kall, v_kall2, v_force_dat, v_force_fr, v_force_slot, v_fslot_own, v_fslot_dat, v_tup, v_ktup, v_lst, v_klst, v_call, v_callF, v_at_ok, v_at_err, v_callB, v_vown, v_kcallB, v_vB, v_atB, v_meth, v_vM, v_methAt, v_vM2, v_vM3, v_append, v_pop, v_cb, v_kcb, v_pkL, v_peeks0, v_peeks1, v_cons22, v_isi, v_sl, v_ksl, v_ksl2, v_ksl3, v_slE_l, v_slE_t, v_slE_r, v_some, v_ksome, v_none, v_revSl, v_iter, v_it_l, v_it_r, v_it_t, v_rng1, v_rng2, v_lc, v_klc, v_klc2, v_yes, v_callV, v_vV, v_vV2, v_seq, v_skip, v_break, v_cont, v_raise, v_drop, v_kdrop, v_ret, v_ret_dat, v_ret_fr, v_ret_slot, v_rslot_own, v_rslot_dat, v_retN, v_ifS, v_kifS1, v_kifS0, v_set, v_put_dat, v_put_fr, v_put_slot, v_kput, v_asg, v_kasg, v_kasg2, v_tgN, v_tgNil, v_tgCons, v_ktg, v_tgT, v_par, v_kpar, v_kpar1, v_kpar2, v_kpar3, v_fix_dat, v_fix_fr, v_fix_slot, v_kfix, v_aug, v_aslot, v_kaug, v_kaug2, v_for, v_try, v_ktry_nx, v_ktry_rt, v_ktry_er, v_ktry2, v_ktry3, v_runF, v_endF_rt, v_endF_nx, v_endF_er, v_runB, v_endB_rt, v_endB_nx, v_add, v_sub, v_mul, v_mod, v_fdiv, v_neg, v_lt, v_cmp, v_eq, v_ne, v_absD, v_int1, v_len_l, v_len_t, v_len_r, v_list_l, v_list_t, v_rev_l, v_rev_r, v_ixt, v_ixl, v_ixr, v_kb_NoneType_bool, v_kb_NoneType_int, v_kb_NoneType_str, v_kb_NoneType_tuple, v_kb_NoneType_list, v_kb_NoneType_dict, v_kb_bool_bool, v_kb_bool_int, v_kb_bool_str, v_kb_bool_tuple, v_kb_bool_list, v_kb_bool_dict, v_kb_int_bool, v_kb_int_int, v_kb_int_str, v_kb_int_tuple, v_kb_int_list, v_kb_int_dict, v_kb_str_bool, v_kb_str_int, v_kb_str_str, v_kb_str_tuple, v_kb_str_list, v_kb_str_dict, v_kb_tuple_bool, v_kb_tuple_int, v_kb_tuple_str, v_kb_tuple_tuple, v_kb_tuple_list, v_kb_tuple_dict, v_kb_list_bool, v_kb_list_int, v_kb_list_str, v_kb_list_tuple, v_kb_list_list, v_kb_list_dict, v_kb_dict_bool, v_kb_dict_int, v_kb_dict_str, v_kb_dict_tuple, v_kb_dict_list, v_kb_dict_dict, v_isi_non, v_isi_bl, v_isi_int, v_isi_str, v_isi_tup, v_isi_lst, v_isi_dct, v_eq_bb, v_ne_bb, v_isNone_non, v_isNone_bl, v_isNone_int, v_isNone_str, v_isNone_tup, v_isNone_lst, List.map_cons, List.map_nil, List.length_cons, List.length_nil, List.cons_append, List.nil_append, List.replicate_succ, List.replicate_zero, List.getElem?_cons_zero, List.getElem?_cons_succ, List.set_cons_zero, List.set_cons_succ, Option.map_some, Nat.reduceSub, Nat.reduceAdd, Nat.reduceLT, Nat.reduceLeDiff, bigN, hk2]
theorem e_fs_bad2 {n m a c : Int} (h : n < 0 ∨ m < 1) : F_floor_sum [.int n, .int m, .int a, .int c] = .err 2 := by
  have hk := (e_check (ds := [.int n, .int m, .int a, .int c]) (fun d hd => by simp only [List.mem_cons, List.not_mem_nil, or_false] at hd; rcases hd with rfl | rfl | rfl | rfl <;> rfl) (by simp)).trans (if_pos rfl)
  unfold F_floor_sum M_floor_sum
  by_cases h1 : n < 0
  · simp only [v_bok, v_berr, v_sok, v_serr, v_nx, v_rt, v_bk, v_ct, v_er, v_ofs, v_var, v_slot_dat, v_slot_own, v_c, v_bin, v_kbin, v_op2, v_pk2, v_un, v_op1, v_pk1, v_peek_dat, v_peek_fr, v_peek_slot, v_pslot_own, v_pslot_dat, v_cnl, v_test, v_ktest, v_andT, v_kand1, v_kand0, v_orT, v_kor1, v_kor0, v_notT, v_knotT, v_and, v_kAnd1, v_kAnd0, v_or, v_kOr1, v_kOr0, v_not, v_knot, v_if, v_kif1, v_kif0, v_isNone, v_notNone, v_nil, v_cons, v_kcons, v_kcons2, v_fast, v_kfast, v_all0, v_all1, v_kall, v_kall2, v_force_dat, v_force_fr, v_force_slot, v_fslot_own, v_fslot_dat, v_tup, v_ktup, v_lst, v_klst, v_call, v_callF, v_at_ok, v_at_err, v_callB, v_vown, v_kcallB, v_vB, v_atB, v_meth, v_vM, v_methAt, v_vM2, v_vM3, v_append, v_pop, v_cb, v_kcb, v_pkL, v_peeks0, v_peeks1, v_cons22, v_isi, v_sl, v_ksl, v_ksl2, v_ksl3, v_slE_l, v_slE_t, v_slE_r, v_some, v_ksome, v_none, v_revSl, v_iter, v_it_l, v_it_r, v_it_t, v_rng1, v_rng2, v_lc, v_klc, v_klc2, v_yes, v_callV, v_vV, v_vV2, v_seq, v_skip, v_break, v_cont, v_raise, v_drop, v_kdrop, v_ret, v_ret_dat, v_ret_fr, v_ret_slot, v_rslot_own, v_rslot_dat, v_retN, v_ifS, v_kifS1, v_kifS0, v_set, v_put_dat, v_put_fr, v_put_slot, v_kput, v_asg, v_kasg, v_kasg2, v_tgN, v_tgNil, v_tgCons, v_ktg, v_tgT, v_par, v_kpar, v_kpar1, v_kpar2, v_kpar3, v_fix_dat, v_fix_fr, v_fix_slot, v_kfix, v_aug, v_aslot, v_kaug, v_kaug2, v_for, v_try, v_ktry_nx, v_ktry_rt, v_ktry_er, v_ktry2, v_ktry3, v_runF, v_endF_rt, v_endF_nx, v_endF_er, v_runB, v_endB_rt, v_endB_nx, v_add, v_sub, v_mul, v_mod, v_fdiv, v_neg, v_lt, v_cmp, v_eq, v_ne, v_absD, v_int1, v_len_l, v_len_t, v_len_r, v_list_l, v_list_t, v_rev_l, v_rev_r, v_ixt, v_ixl, v_ixr, v_kb_NoneType_bool, v_kb_NoneType_int, v_kb_NoneType_str, v_kb_NoneType_tuple, v_kb_NoneType_list, v_kb_NoneType_dict, v_kb_bool_bool, v_kb_bool_int, v_kb_bool_str, v_kb_bool_tuple, v_kb_bool_list, v_kb_bool_dict, v_kb_int_bool, v_kb_int_int, v_kb_int_str, v_kb_int_tuple, v_kb_int_list, v_kb_int_dict, v_kb_str_bool, v_kb_str_int, v_kb_str_str, v_kb_str_tuple, v_kb_str_list, v_kb_str_dict, v_kb_tuple_bool, v_kb_tuple_int, v_kb_tuple_str, v_kb_tuple_tuple, v_kb_tuple_list, v_kb_tuple_dict, v_kb_list_bool, v_kb_list_int, v_kb_list_str, v_kb_list_tuple, v_kb_list_list, v_kb_list_dict, v_kb_dict_bool, v_kb_dict_int, v_kb_dict_str, v_kb_dict_tuple, v_kb_dict_list, v_kb_dict_dict, v_isi_non, v_isi_bl, v_isi_int, v_isi_str, v_isi_tup, v_isi_lst, v_isi_dct, v_eq_bb, v_ne_bb, v_isNone_non, v_isNone_bl, v_isNone_int, v_isNone_str, v_isNone_tup, v_isNone_lst, List.map_cons, List.map_nil, List.length_cons, List.length_nil, List.cons_append, List.nil_append, List.replicate_succ, List.replicate_zero, List.getElem?_cons_zero, List.getElem?_cons_succ, List.set_cons_zero, List.set_cons_succ, Option.map_some, Nat.reduceSub, Nat.reduceAdd, Nat.reduceLT, Nat.reduceLeDiff, bigN, hk, decide_eq_true h1]
  · simp only [v_bok, v_berr, v_sok, v_serr, v_nx, v_rt, v_bk, v_ct, v_er, v_ofs, v_var, v_slot_dat, v_slot_own, v_c, v_bin, v_kbin, v_op2, v_pk2, v_un, v_op1, v_pk1, v_peek_dat, v_peek_fr, v_peek_slot, v_pslot_own, v_pslot_dat, v_cnl, v_test, v_ktest, v_andT, v_kand1, v_kand0, v_orT, v_kor1, v_kor0, v_notT, v_knotT, v_and, v_kAnd1, v_kAnd0, v_or, v_kOr1, v_kOr0, v_not, v_knot, v_if, v_kif1, v_kif0, v_isNone, v_notNone, v_nil, v_cons, v_kcons, v_kcons2, v_fast, v_kfast, v_all0, v_all1, v_kall, v_kall2, v_force_dat, v_force_fr, v_force_slot, v_fslot_own, v_fslot_dat, v_tup, v_ktup, v_lst, v_klst, v_call, v_callF, v_at_ok, v_at_err, v_callB, v_vown, v_kcallB, v_vB, v_atB, v_meth, v_vM, v_methAt, v_vM2, v_vM3, v_append, v_pop, v_cb, v_kcb, v_pkL, v_peeks0, v_peeks1, v_cons22, v_isi, v_sl, v_ksl, v_ksl2, v_ksl3, v_slE_l, v_slE_t, v_slE_r, v_some, v_ksome, v_none, v_revSl, v_iter, v_it_l, v_it_r, v_it_t, v_rng1, v_rng2, v_lc, v_klc, v_klc2, v_yes, v_callV, v_vV, v_vV2, v_seq, v_skip, v_break, v_cont, v_raise, v_drop, v_kdrop, v_ret, v_ret_dat, v_ret_fr, v_ret_slot, v_rslot_own, v_rslot_dat, v_retN, v_ifS, v_kifS1, v_kifS0, v_set, v_put_dat, v_put_fr, v_put_slot, v_kput, v_asg, v_kasg, v_kasg2, v_tgN, v_tgNil, v_tgCons, v_ktg, v_tgT, v_par, v_kpar, v_kpar1, v_kpar2, v_kpar3, v_fix_dat, v_fix_fr, v_fix_slot, v_kfix, v_aug, v_aslot, v_kaug, v_kaug2, v_for, v_try, v_ktry_nx, v_ktry_rt, v_ktry_er, v_ktry2, v_ktry3, v_runF, v_endF_rt, v_endF_nx, v_endF_er, v_runB, v_endB_rt, v_endB_nx, v_add, v_sub, v_mul, v_mod, v_fdiv, v_neg, v_lt, v_cmp, v_eq, v_ne, v_absD, v_int1, v_len_l, v_len_t, v_len_r, v_list_l, v_list_t, v_rev_l, v_rev_r, v_ixt, v_ixl, v_ixr, v_kb_NoneType_bool, v_kb_NoneType_int, v_kb_NoneType_str, v_kb_NoneType_tuple, v_kb_NoneType_list, v_kb_NoneType_dict, v_kb_bool_bool, v_kb_bool_int, v_kb_bool_str, v_kb_bool_tuple, v_kb_bool_list, v_kb_bool_dict, v_kb_int_bool, v_kb_int_int, v_kb_int_str, v_kb_int_tuple, v_kb_int_list, v_kb_int_dict, v_kb_str_bool, v_kb_str_int, v_kb_str_str, v_kb_str_tuple, v_kb_str_list, v_kb_str_dict, v_kb_tuple_bool, v_kb_tuple_int, v_kb_tuple_str, v_kb_tuple_tuple, v_kb_tuple_list, v_kb_tuple_dict, v_kb_list_bool, v_kb_list_int, v_kb_list_str, v_kb_list_tuple, v_kb_list_list, v_kb_list_dict, v_kb_dict_bool, v_kb_dict_int, v_kb_dict_str, v_kb_dict_tuple, v_kb_dict_list, v_kb_dict_dict, v_isi_non, v_isi_bl, v_isi_int, v_isi_str, v_isi_tup, v_isi_lst, v_isi_dct, v_eq_bb, v_ne_bb, v_isNone_non, v_isNone_bl, v_isNone_int, v_isNone_str, v_isNone_tup, v_isNone_lst, List.map_cons, List.map_nil, List.length_cons, List.length_nil, List.cons_append, List.nil_append, List.replicate_succ, List.replicate_zero, List.getElem?_cons_zero, List.getElem?_cons_succ, List.set_cons_zero, List.set_cons_succ, Option.map_some, Nat.reduceSub, Nat.reduceAdd, Nat.reduceLT, Nat.reduceLeDiff, bigN, hk, decide_eq_false h1, decide_eq_true (h.resolve_left h1)]
theorem e_told0_bad {x y z w : D} (h : F_floor_sum [x, y, z, w] = .err 2) : F_law_told [.int 0, .tup [x, y, z, w]] = .ok (.dat (.str "not right")) := by
  have e0 : ((0 : Int) == 0) = true := rfl
  unfold F_law_told M_law_told
  simp only [v_bok, v_berr, v_sok, v_serr, v_nx, v_rt, v_bk, v_ct, v_er, v_ofs, v_var, v_slot_dat, v_slot_own, v_c, v_bin, v_kbin, v_op2, v_pk2, v_un, v_op1, v_pk1, v_peek_dat, v_peek_fr, v_peek_slot, v_pslot_own, v_pslot_dat, v_cnl, v_test, v_ktest, v_andT, v_kand1, v_kand0, v_orT, v_kor1, v_kor0, v_notT, v_knotT, v_and, v_kAnd1, v_kAnd0, v_or, v_kOr1, v_kOr0, v_not, v_knot, v_if, v_kif1, v_kif0, v_isNone, v_notNone, v_nil, v_cons, v_kcons, v_kcons2, v_fast, v_kfast, v_all0, v_all1, v_kall, v_kall2, v_force_dat, v_force_fr, v_force_slot, v_fslot_own, v_fslot_dat, v_tup, v_ktup, v_lst, v_klst, v_call, v_callF, v_at_ok, v_at_err, v_callB, v_vown, v_kcallB, v_vB, v_atB, v_meth, v_vM, v_methAt, v_vM2, v_vM3, v_append, v_pop, v_cb, v_kcb, v_pkL, v_peeks0, v_peeks1, v_cons22, v_isi, v_sl, v_ksl, v_ksl2, v_ksl3, v_slE_l, v_slE_t, v_slE_r, v_some, v_ksome, v_none, v_revSl, v_iter, v_it_l, v_it_r, v_it_t, v_rng1, v_rng2, v_lc, v_klc, v_klc2, v_yes, v_callV, v_vV, v_vV2, v_seq, v_skip, v_break, v_cont, v_raise, v_drop, v_kdrop, v_ret, v_ret_dat, v_ret_fr, v_ret_slot, v_rslot_own, v_rslot_dat, v_retN, v_ifS, v_kifS1, v_kifS0, v_set, v_put_dat, v_put_fr, v_put_slot, v_kput, v_asg, v_kasg, v_kasg2, v_tgN, v_tgNil, v_tgCons, v_ktg, v_tgT, v_par, v_kpar, v_kpar1, v_kpar2, v_kpar3, v_fix_dat, v_fix_fr, v_fix_slot, v_kfix, v_aug, v_aslot, v_kaug, v_kaug2, v_for, v_try, v_ktry_nx, v_ktry_rt, v_ktry_er, v_ktry2, v_ktry3, v_runF, v_endF_rt, v_endF_nx, v_endF_er, v_runB, v_endB_rt, v_endB_nx, v_add, v_sub, v_mul, v_mod, v_fdiv, v_neg, v_lt, v_cmp, v_eq, v_ne, v_absD, v_int1, v_len_l, v_len_t, v_len_r, v_list_l, v_list_t, v_rev_l, v_rev_r, v_ixt, v_ixl, v_ixr, v_kb_NoneType_bool, v_kb_NoneType_int, v_kb_NoneType_str, v_kb_NoneType_tuple, v_kb_NoneType_list, v_kb_NoneType_dict, v_kb_bool_bool, v_kb_bool_int, v_kb_bool_str, v_kb_bool_tuple, v_kb_bool_list, v_kb_bool_dict, v_kb_int_bool, v_kb_int_int, v_kb_int_str, v_kb_int_tuple, v_kb_int_list, v_kb_int_dict, v_kb_str_bool, v_kb_str_int, v_kb_str_str, v_kb_str_tuple, v_kb_str_list, v_kb_str_dict, v_kb_tuple_bool, v_kb_tuple_int, v_kb_tuple_str, v_kb_tuple_tuple, v_kb_tuple_list, v_kb_tuple_dict, v_kb_list_bool, v_kb_list_int, v_kb_list_str, v_kb_list_tuple, v_kb_list_list, v_kb_list_dict, v_kb_dict_bool, v_kb_dict_int, v_kb_dict_str, v_kb_dict_tuple, v_kb_dict_list, v_kb_dict_dict, v_isi_non, v_isi_bl, v_isi_int, v_isi_str, v_isi_tup, v_isi_lst, v_isi_dct, v_eq_bb, v_ne_bb, v_isNone_non, v_isNone_bl, v_isNone_int, v_isNone_str, v_isNone_tup, v_isNone_lst, List.map_cons, List.map_nil, List.length_cons, List.length_nil, List.cons_append, List.nil_append, List.replicate_succ, List.replicate_zero, List.getElem?_cons_zero, List.getElem?_cons_succ, List.set_cons_zero, List.set_cons_succ, Option.map_some, Nat.reduceSub, Nat.reduceAdd, Nat.reduceLT, Nat.reduceLeDiff, bigN, h, e0, if_pos]
theorem S_sum (m a c : Int) : ∀ n : Nat, (((List.range n).map fun (i : Nat) => (a * i + c) / m).sum : Int) = S m a c n
  | 0 => rfl
  | n + 1 => by
    rw [List.range_succ, List.map_append, List.sum_append, S_sum m a c n]
    simp [S]
def suS (a b c d e : SV) : DS := [a, b, c, d, e]
theorem e_sum {n m a c : Int} (n0 : 0 ≤ n) (n1 : n < 100000) (hm : 0 < m) (m1 : m < 18446744073709551616) : F_law_sum [.int n, .int m, .int a, .int c] = .ok (.dat (.int (S m a c n.toNat))) := by
  have hm1 := lt250 m1
  have hc : compL [4] (tgN 4) mYes (mBin fdivD (mBin addD (mBin mulD (mVar 2) (mVar 4)) (mVar 3)) (mVar 1)) (iRow 0 n.toNat) [] (suS (.dat (.int n)) (.dat (.int m)) (.dat (.int a)) (.dat (.int c)) .emp) = .ok ((iRow 0 n.toNat).map fun d => match d with | .int i => .int ((a * i + c) / m) | _ => .non) (suS (.dat (.int n)) (.dat (.int m)) (.dat (.int a)) (.dat (.int c)) .emp) := by
    refine comp_all (fun d => match d with | .int i => .int ((a * i + c) / m) | _ => .non) (fun x hx => ?_) (by rw [iRow_len]; show _ ≤ 1000000; omega)
    obtain ⟨i, hi, rfl⟩ := iRow_mem hx
    rw [Int.zero_add]
    have k1 : L2.CMul a (i : Int) := c_r (by omega) (by omega)
    refine ⟨suS (.dat (.int n)) (.dat (.int m)) (.dat (.int a)) (.dat (.int c)) (.dat (.int i)), suS (.dat (.int n)) (.dat (.int m)) (.dat (.int a)) (.dat (.int c)) (.dat (.int i)), .dat (.int ((a * i + c) / m)), suS (.dat (.int n)) (.dat (.int m)) (.dat (.int a)) (.dat (.int c)) (.dat (.int i)), suS (.dat (.int n)) (.dat (.int m)) (.dat (.int a)) (.dat (.int c)) (.dat (.int i)), rfl, rfl, ?_, rfl, rfl⟩
    simp only [v_bok, v_berr, v_sok, v_serr, v_nx, v_rt, v_bk, v_ct, v_er, v_ofs, v_var, v_slot_dat, v_slot_own, v_c, v_bin, v_kbin, v_op2, v_pk2, v_un, v_op1, v_pk1, v_peek_dat, v_peek_fr, v_peek_slot, v_pslot_own, v_pslot_dat, v_cnl, v_test, v_ktest, v_andT, v_kand1, v_kand0, v_orT, v_kor1, v_kor0, v_notT, v_knotT, v_and, v_kAnd1, v_kAnd0, v_or, v_kOr1, v_kOr0, v_not, v_knot, v_if, v_kif1, v_kif0, v_isNone, v_notNone, v_nil, v_cons, v_kcons, v_kcons2, v_fast, v_kfast, v_all0, v_all1, v_kall, v_kall2, v_force_dat, v_force_fr, v_force_slot, v_fslot_own, v_fslot_dat, v_tup, v_ktup, v_lst, v_klst, v_call, v_callF, v_at_ok, v_at_err, v_callB, v_vown, v_kcallB, v_vB, v_atB, v_meth, v_vM, v_methAt, v_vM2, v_vM3, v_append, v_pop, v_cb, v_kcb, v_pkL, v_peeks0, v_peeks1, v_cons22, v_isi, v_sl, v_ksl, v_ksl2, v_ksl3, v_slE_l, v_slE_t, v_slE_r, v_some, v_ksome, v_none, v_revSl, v_iter, v_it_l, v_it_r, v_it_t, v_rng1, v_rng2, v_lc, v_klc, v_klc2, v_yes, v_callV, v_vV, v_vV2, v_seq, v_skip, v_break, v_cont, v_raise, v_drop, v_kdrop, v_ret, v_ret_dat, v_ret_fr, v_ret_slot, v_rslot_own, v_rslot_dat, v_retN, v_ifS, v_kifS1, v_kifS0, v_set, v_put_dat, v_put_fr, v_put_slot, v_kput, v_asg, v_kasg, v_kasg2, v_tgN, v_tgNil, v_tgCons, v_ktg, v_tgT, v_par, v_kpar, v_kpar1, v_kpar2, v_kpar3, v_fix_dat, v_fix_fr, v_fix_slot, v_kfix, v_aug, v_aslot, v_kaug, v_kaug2, v_for, v_try, v_ktry_nx, v_ktry_rt, v_ktry_er, v_ktry2, v_ktry3, v_runF, v_endF_rt, v_endF_nx, v_endF_er, v_runB, v_endB_rt, v_endB_nx, v_add, v_sub, v_mul, v_mod, v_fdiv, v_neg, v_lt, v_cmp, v_eq, v_ne, v_absD, v_int1, v_len_l, v_len_t, v_len_r, v_list_l, v_list_t, v_rev_l, v_rev_r, v_ixt, v_ixl, v_ixr, v_kb_NoneType_bool, v_kb_NoneType_int, v_kb_NoneType_str, v_kb_NoneType_tuple, v_kb_NoneType_list, v_kb_NoneType_dict, v_kb_bool_bool, v_kb_bool_int, v_kb_bool_str, v_kb_bool_tuple, v_kb_bool_list, v_kb_bool_dict, v_kb_int_bool, v_kb_int_int, v_kb_int_str, v_kb_int_tuple, v_kb_int_list, v_kb_int_dict, v_kb_str_bool, v_kb_str_int, v_kb_str_str, v_kb_str_tuple, v_kb_str_list, v_kb_str_dict, v_kb_tuple_bool, v_kb_tuple_int, v_kb_tuple_str, v_kb_tuple_tuple, v_kb_tuple_list, v_kb_tuple_dict, v_kb_list_bool, v_kb_list_int, v_kb_list_str, v_kb_list_tuple, v_kb_list_list, v_kb_list_dict, v_kb_dict_bool, v_kb_dict_int, v_kb_dict_str, v_kb_dict_tuple, v_kb_dict_list, v_kb_dict_dict, v_isi_non, v_isi_bl, v_isi_int, v_isi_str, v_isi_tup, v_isi_lst, v_isi_dct, v_eq_bb, v_ne_bb, v_isNone_non, v_isNone_bl, v_isNone_int, v_isNone_str, v_isNone_tup, v_isNone_lst, List.map_cons, List.map_nil, List.length_cons, List.length_nil, List.cons_append, List.nil_append, List.replicate_succ, List.replicate_zero, List.getElem?_cons_zero, List.getElem?_cons_succ, List.set_cons_zero, List.set_cons_succ, Option.map_some, Nat.reduceSub, Nat.reduceAdd, Nat.reduceLT, Nat.reduceLeDiff, bigN, suS, v_mul k1, v_fdiv hm hm1, fd (Int.le_of_lt hm)]
  unfold suS at hc
  have e : (iRow 0 n.toNat).map (fun d => match d with | .int i => D.int ((a * i + c) / m) | _ => .non) = (List.range n.toNat).map fun (i : Nat) => .int ((a * i + c) / m) := by
    unfold iRow
    rw [List.map_map]
    apply List.map_congr_left
    intro i _
    show D.int ((a * (0 + (i : Int)) + c) / m) = _
    rw [Int.zero_add]
  rw [e] at hc
  unfold F_law_sum M_law_sum
  simp only [v_bok, v_berr, v_sok, v_serr, v_nx, v_rt, v_bk, v_ct, v_er, v_ofs, v_var, v_slot_dat, v_slot_own, v_c, v_bin, v_kbin, v_op2, v_pk2, v_un, v_op1, v_pk1, v_peek_dat, v_peek_fr, v_peek_slot, v_pslot_own, v_pslot_dat, v_cnl, v_test, v_ktest, v_andT, v_kand1, v_kand0, v_orT, v_kor1, v_kor0, v_notT, v_knotT, v_and, v_kAnd1, v_kAnd0, v_or, v_kOr1, v_kOr0, v_not, v_knot, v_if, v_kif1, v_kif0, v_isNone, v_notNone, v_nil, v_cons, v_kcons, v_kcons2, v_fast, v_kfast, v_all0, v_all1, v_kall, v_kall2, v_force_dat, v_force_fr, v_force_slot, v_fslot_own, v_fslot_dat, v_tup, v_ktup, v_lst, v_klst, v_call, v_callF, v_at_ok, v_at_err, v_callB, v_vown, v_kcallB, v_vB, v_atB, v_meth, v_vM, v_methAt, v_vM2, v_vM3, v_append, v_pop, v_cb, v_kcb, v_pkL, v_peeks0, v_peeks1, v_cons22, v_isi, v_sl, v_ksl, v_ksl2, v_ksl3, v_slE_l, v_slE_t, v_slE_r, v_some, v_ksome, v_none, v_revSl, v_iter, v_it_l, v_it_r, v_it_t, v_rng1, v_rng2, v_lc, v_klc, v_klc2, v_yes, v_callV, v_vV, v_vV2, v_seq, v_skip, v_break, v_cont, v_raise, v_drop, v_kdrop, v_ret, v_ret_dat, v_ret_fr, v_ret_slot, v_rslot_own, v_rslot_dat, v_retN, v_ifS, v_kifS1, v_kifS0, v_set, v_put_dat, v_put_fr, v_put_slot, v_kput, v_asg, v_kasg, v_kasg2, v_tgN, v_tgNil, v_tgCons, v_ktg, v_tgT, v_par, v_kpar, v_kpar1, v_kpar2, v_kpar3, v_fix_dat, v_fix_fr, v_fix_slot, v_kfix, v_aug, v_aslot, v_kaug, v_kaug2, v_for, v_try, v_ktry_nx, v_ktry_rt, v_ktry_er, v_ktry2, v_ktry3, v_runF, v_endF_rt, v_endF_nx, v_endF_er, v_runB, v_endB_rt, v_endB_nx, v_add, v_sub, v_mul, v_mod, v_fdiv, v_neg, v_lt, v_cmp, v_eq, v_ne, v_absD, v_int1, v_len_l, v_len_t, v_len_r, v_list_l, v_list_t, v_rev_l, v_rev_r, v_ixt, v_ixl, v_ixr, v_kb_NoneType_bool, v_kb_NoneType_int, v_kb_NoneType_str, v_kb_NoneType_tuple, v_kb_NoneType_list, v_kb_NoneType_dict, v_kb_bool_bool, v_kb_bool_int, v_kb_bool_str, v_kb_bool_tuple, v_kb_bool_list, v_kb_bool_dict, v_kb_int_bool, v_kb_int_int, v_kb_int_str, v_kb_int_tuple, v_kb_int_list, v_kb_int_dict, v_kb_str_bool, v_kb_str_int, v_kb_str_str, v_kb_str_tuple, v_kb_str_list, v_kb_str_dict, v_kb_tuple_bool, v_kb_tuple_int, v_kb_tuple_str, v_kb_tuple_tuple, v_kb_tuple_list, v_kb_tuple_dict, v_kb_list_bool, v_kb_list_int, v_kb_list_str, v_kb_list_tuple, v_kb_list_list, v_kb_list_dict, v_kb_dict_bool, v_kb_dict_int, v_kb_dict_str, v_kb_dict_tuple, v_kb_dict_list, v_kb_dict_dict, v_isi_non, v_isi_bl, v_isi_int, v_isi_str, v_isi_tup, v_isi_lst, v_isi_dct, v_eq_bb, v_ne_bb, v_isNone_non, v_isNone_bl, v_isNone_int, v_isNone_str, v_isNone_tup, v_isNone_lst, List.map_cons, List.map_nil, List.length_cons, List.length_nil, List.cons_append, List.nil_append, List.replicate_succ, List.replicate_zero, List.getElem?_cons_zero, List.getElem?_cons_succ, List.set_cons_zero, List.set_cons_succ, Option.map_some, Nat.reduceSub, Nat.reduceAdd, Nat.reduceLT, Nat.reduceLeDiff, bigN, v_rng1 (show -1000000000 ≤ n ∧ n < 1000000000 by omega), hc, sumD_int, S_sum]
end Lw

/-! Parts of ratios, near ratios. -/
namespace Lw
def parts (n d : Nat) : List Nat := if h : d = 0 then [] else n / d :: parts d (n % d)
termination_by d
decreasing_by exact Nat.mod_lt _ (Nat.pos_of_ne_zero h)
theorem parts_zero (n : Nat) : parts n 0 = [] := by unfold parts; rfl
theorem parts_pos {n d : Nat} (h : 0 < d) : parts n d = n / d :: parts d (n % d) := by
  conv => lhs; unfold parts
  rw [dif_neg (by omega)]
def put : List Nat → Nat × Nat
  | [] => (1, 0)
  | a :: l => (a * (put l).1 + (put l).2, (put l).1)
theorem put_parts (d : Nat) : ∀ n, (put (parts n d)).1 * Nat.gcd n d = n ∧ (put (parts n d)).2 * Nat.gcd n d = d := by
  induction d using Nat.strongRecOn with
  | ind d ih =>
    intro n
    rcases Nat.eq_zero_or_pos d with h | h
    · subst h
      rw [parts_zero]
      simp [put]
    · rw [parts_pos h]
      obtain ⟨h1, h2⟩ := ih (n % d) (Nat.mod_lt _ h) d
      have hg : Nat.gcd n d = Nat.gcd d (n % d) := by rw [Nat.gcd_comm n d, Nat.gcd_rec d n, Nat.gcd_comm]
      show (n / d * (put (parts d (n % d))).1 + (put (parts d (n % d))).2) * Nat.gcd n d = n ∧ (put (parts d (n % d))).1 * Nat.gcd n d = d
      rw [hg]
      refine ⟨?_, h1⟩
      rw [Nat.add_mul, h2, Nat.mul_assoc, h1, Nat.mul_comm, Nat.div_add_mod]
theorem put_eq {n d : Nat} (h : 0 < d) : (put (parts n d)).1 = n / Nat.gcd n d ∧ (put (parts n d)).2 = d / Nat.gcd n d := by
  obtain ⟨h1, h2⟩ := put_parts d n
  have hg : 0 < Nat.gcd n d := Nat.gcd_pos_of_pos_right n h
  exact ⟨(Nat.div_eq_of_eq_mul_left hg h1.symm).symm, (Nat.div_eq_of_eq_mul_left hg h2.symm).symm⟩
theorem parts_ne {n d : Nat} (h : 0 < d) : parts n d ≠ [] := by rw [parts_pos h]; exact List.cons_ne_nil _ _
/-- all parts at least 1, the last at least 2 -/
theorem parts_low (d : Nat) : ∀ n, 0 < d → d < n → (∀ a ∈ parts n d, 1 ≤ a) ∧ ∀ x, (parts n d).getLast? = some x → 2 ≤ x := by
  induction d using Nat.strongRecOn with
  | ind d ih =>
    intro n h hn
    have hq : 1 ≤ n / d := Nat.div_pos (Nat.le_of_lt hn) h
    rw [parts_pos h]
    rcases Nat.eq_zero_or_pos (n % d) with z | z
    · rw [z, parts_zero]
      have hd := Nat.div_add_mod n d
      rw [z] at hd
      have : 2 ≤ n / d := by
        rcases Nat.lt_or_ge (n / d) 2 with y | y
        · have y2 : n / d = 1 := by omega
          rw [y2] at hd
          omega
        · exact y
      refine ⟨fun a ha => ?_, fun x hx => ?_⟩
      · rw [List.mem_singleton.mp ha]; exact hq
      · cases hx; exact this
    · obtain ⟨h1, h2⟩ := ih (n % d) (Nat.mod_lt _ h) d z (Nat.mod_lt _ h)
      refine ⟨fun a ha => ?_, fun x hx => ?_⟩
      · rcases List.mem_cons.mp ha with y | y
        · rw [y]; exact hq
        · exact h1 a y
      · refine h2 x ?_
        have hne := parts_ne (n := d) z
        cases e : parts d (n % d) with
        | nil => exact absurd e hne
        | cons b l => rw [e] at hx; rw [List.getLast?_cons_cons] at hx; exact hx
def go : List Nat → Nat × Nat → Nat × Nat → List (Nat × Nat)
  | [], _, _ => []
  | a :: l, o, e => (a * o.1 + e.1, a * o.2 + e.2) :: go l (a * o.1 + e.1, a * o.2 + e.2) o
theorem go_len : ∀ l o e, (go l o e).length = l.length
  | [], _, _ => rfl
  | a :: l, o, e => congrArg (· + 1) (go_len l _ _)
def lin (o e x : Nat × Nat) : Nat × Nat := (o.1 * x.1 + e.1 * x.2, o.2 * x.1 + e.2 * x.2)
theorem lin_step (a : Nat) (o e x : Nat × Nat) : lin (a * o.1 + e.1, a * o.2 + e.2) o x = lin o e (a * x.1 + x.2, x.1) := by
  obtain ⟨o1, o2⟩ := o
  obtain ⟨e1, e2⟩ := e
  obtain ⟨x1, x2⟩ := x
  exact Prod.ext (by dsimp only [lin]; grind) (by dsimp only [lin]; grind)
theorem go_get : ∀ (l : List Nat) (o e : Nat × Nat) (k : Nat), k < l.length → (go l o e)[k]? = some (lin o e (put (l.take (k + 1))))
  | [], _, _, _, h => absurd h (Nat.not_lt_zero _)
  | a :: l, o, e, 0, _ => by
    simp [go, put, lin, Nat.mul_comm]
  | a :: l, o, e, k + 1, h => by
    have ih := go_get l (a * o.1 + e.1, a * o.2 + e.2) o k (by simpa using h)
    show (go l (a * o.1 + e.1, a * o.2 + e.2) o)[k]? = _
    rw [ih]
    exact congrArg some (lin_step a o e (put (l.take (k + 1))))
/-- what is known of a walk's place: n = p N + p' D, d = q N + q' D -/
structure At (n d N D : Nat) (o e : Nat × Nat) (s : Int) : Prop where
  h1 : n = o.1 * N + e.1 * D
  h2 : d = o.2 * N + e.2 * D
  det : (o.1 : Int) * e.2 - e.1 * o.2 = s
  sq : s = 1 ∨ s = -1
theorem At.next {n d N D : Nat} {o e : Nat × Nat} {s : Int} (h : At n d N D o e s) : At n d D (N % D) (N / D * o.1 + e.1, N / D * o.2 + e.2) o (-s) where
  h1 := by
    have := Nat.div_add_mod N D
    show n = (N / D * o.1 + e.1) * D + o.1 * (N % D)
    rw [h.h1]
    conv => lhs; rw [← this]
    grind
  h2 := by
    have := Nat.div_add_mod N D
    show d = (N / D * o.2 + e.2) * D + o.2 * (N % D)
    rw [h.h2]
    conv => lhs; rw [← this]
    grind
  det := by
    have := h.det
    show (((N / D * o.1 + e.1 : Nat) : Int)) * o.2 - o.1 * ((N / D * o.2 + e.2 : Nat) : Int) = -s
    push_cast
    grind
  sq := by rcases h.sq with z | z <;> omega
/-- the nearest: o = (P, Q) -/
theorem At.near {n d D D' : Nat} {o e : Nat × Nat} {s : Int} (h : At n d D D' o e s) (hD : D' < D) {t r : Int} (ht : 1 ≤ t) (htq : t < o.2) :
    ((((o.1 : Int) * d - n * o.2).natAbs : Nat) : Int) * t < (((r * d - n * t).natAbs : Nat) : Int) * o.2 := by
  obtain ⟨P, Q⟩ := o
  obtain ⟨p, q⟩ := e
  obtain ⟨h1, h2, det, sq⟩ := h
  dsimp only at *
  have e1 : (P : Int) * d - n * Q = D' * s := by
    rw [h1, h2]; push_cast; rw [← det]; grind
  have hx : ∃ x y : Int, r = x * P + y * p ∧ t = x * Q + y * q ∧ r * d - n * t = s * (x * D' - y * D) := by
    refine ⟨s * (r * q - t * p), s * (P * t - Q * r), ?_, ?_, ?_⟩
    · rcases sq with z | z <;> rw [z] at det ⊢ <;> grind
    · rcases sq with z | z <;> rw [z] at det ⊢ <;> grind
    · rw [h1, h2]; push_cast
      rcases sq with z | z <;> rw [z] at det ⊢ <;> grind
  obtain ⟨x, y, er, et, e2⟩ := hx
  have hu : (D : Int) ≤ ((s * (x * D' - y * D)).natAbs : Nat) := by
    have ha : (s * (x * D' - y * D)).natAbs = (x * D' - y * D).natAbs := by
      rcases sq with z | z <;> rw [z] <;> simp [Int.natAbs_mul]
    rw [ha]
    have hq0 : (0 : Int) ≤ q := Int.natCast_nonneg q
    have hD0 : (0 : Int) ≤ D' := Int.natCast_nonneg D'
    rcases Int.lt_trichotomy y 0 with z | z | z
    · have hy : 0 ≤ (-y - 1) * q := Int.mul_nonneg (by omega) hq0
      have hxp : 1 ≤ x := by
        rcases Int.lt_or_le 0 x with w | w
        · exact w
        · have : x * Q ≤ 0 := Int.mul_nonpos_of_nonpos_of_nonneg w (by omega)
          have : (-y - 1) * q = -(y * q) - q := by grind
          omega
      have h3 : 0 ≤ x * D' := Int.mul_nonneg (by omega) hD0
      have h4 : 0 ≤ (-y - 1) * D := Int.mul_nonneg (by omega) (Int.natCast_nonneg D)
      have h5 : (-y - 1) * D = -(y * D) - D := by grind
      omega
    · subst z
      exfalso
      have e3 : t = x * Q := by rw [et]; simp
      rcases Int.lt_or_le 0 x with w | w
      · have : 0 ≤ (x - 1) * Q := Int.mul_nonneg (by omega) (by omega)
        have : (x - 1) * Q = x * Q - Q := by grind
        omega
      · have : x * Q ≤ 0 := Int.mul_nonpos_of_nonpos_of_nonneg w (by omega)
        omega
    · have hyq : 0 ≤ y * q := Int.mul_nonneg (by omega) hq0
      have hxn : x ≤ 0 := by
        rcases Int.lt_or_le 0 x with w | w
        · have : 0 ≤ (x - 1) * Q := Int.mul_nonneg (by omega) (by omega)
          have : (x - 1) * Q = x * Q - Q := by grind
          omega
        · exact w
      have h3 : x * D' ≤ 0 := Int.mul_nonpos_of_nonpos_of_nonneg hxn hD0
      have h4 : 0 ≤ (y - 1) * D := Int.mul_nonneg (by omega) (Int.natCast_nonneg D)
      have h5 : (y - 1) * D = y * D - D := by grind
      omega
  rw [e1, e2]
  have h6 : ((((D' : Int) * s).natAbs : Nat) : Int) = D' := by
    rcases sq with z | z <;> rw [z] <;> simp
  rw [h6]
  have h7 : (D' : Int) * t ≤ D' * Q := Int.mul_le_mul_of_nonneg_left (by omega) (by omega)
  have h8 : ((D' : Int) + 1) * Q ≤ ((s * (x * D' - y * D)).natAbs : Nat) * Q := Int.mul_le_mul_of_nonneg_right (by omega) (by omega)
  have h9 : ((D' : Int) + 1) * Q = D' * Q + Q := by grind
  omega
/-- all of the walk -/
theorem go_all {n d : Nat} : ∀ (D N : Nat) (o e : Nat × Nat) (s : Int), At n d N D o e s → ∀ (k : Nat) (x : Nat × Nat), (go (parts N D) o e)[k]? = some x →
    (∃ (y : Nat × Nat) (D1 D2 : Nat) (s' : Int), At n d D1 D2 x y s' ∧ D2 < D1 ∧ (o :: go (parts N D) o e)[k]? = some y) := by
  intro D
  induction D using Nat.strongRecOn with
  | ind D ih =>
    intro N o e s h k x hx
    rcases Nat.eq_zero_or_pos D with z | z
    · subst z; rw [parts_zero] at hx; simp [go] at hx
    · rw [parts_pos z] at hx ⊢
      have hn := h.next
      cases k with
      | zero =>
        simp only [go, List.getElem?_cons_zero, Option.some.injEq] at hx
        subst hx
        exact ⟨o, D, N % D, -s, hn, Nat.mod_lt _ z, rfl⟩
      | succ k =>
        simp only [go, List.getElem?_cons_succ] at hx
        obtain ⟨y, D1, D2, s', h1, h2, h3⟩ := ih (N % D) (Nat.mod_lt _ z) D _ _ _ hn k x hx
        exact ⟨y, D1, D2, s', h1, h2, by simpa [go] using h3⟩
theorem at_start (n d : Nat) : At n d n d (1, 0) (0, 1) 1 := ⟨by simp, by simp, by simp, .inl rfl⟩
theorem parts_len (k : Nat) : ∀ n d, d < 2 ^ k → (parts n d).length ≤ 2 * k := by
  induction k with
  | zero =>
    intro n d h
    have : d = 0 := by simpa using h
    subst this
    rw [parts_zero]
    exact Nat.le_refl _
  | succ k ih =>
    intro n d h
    rcases Nat.eq_zero_or_pos d with z | z
    · subst z; rw [parts_zero]; exact Nat.zero_le _
    · rw [parts_pos z]
      rcases Nat.eq_zero_or_pos (n % d) with y | y
      · rw [y, parts_zero]; simp; omega
      · rw [parts_pos y]
        have h1 : n % d < d := Nat.mod_lt _ z
        have h2 : d % (n % d) < n % d := Nat.mod_lt _ y
        have h3 : d % (n % d) + n % d ≤ d := by
          have h4 := Nat.div_add_mod d (n % d)
          have h5 : 1 ≤ d / (n % d) := Nat.div_pos (Nat.le_of_lt h1) y
          have h6 : n % d * 1 ≤ n % d * (d / (n % d)) := Nat.mul_le_mul_left _ h5
          omega
        have h7 : 2 ^ (k + 1) = 2 * 2 ^ k := by rw [Nat.pow_succ]; omega
        have := ih (n % d) (d % (n % d)) (by omega)
        simp only [List.length_cons]
        omega
theorem parts_le (d : Nat) : ∀ n a, a ∈ parts n d → a ≤ max n d := by
  induction d using Nat.strongRecOn with
  | ind d ih =>
    intro n a h
    rcases Nat.eq_zero_or_pos d with z | z
    · subst z; rw [parts_zero] at h; cases h
    · rw [parts_pos z] at h
      rcases List.mem_cons.mp h with y | y
      · rw [y]; exact Nat.le_trans (Nat.div_le_self _ _) (Nat.le_max_left _ _)
      · have := ih (n % d) (Nat.mod_lt _ z) d a y
        have := Nat.mod_lt n z
        omega
theorem At.le {n d N D : Nat} {o e : Nat × Nat} {s : Int} (h : At n d N D o e s) (hN : 0 < N) : o.1 ≤ n ∧ o.2 ≤ d := by
  have h1 := h.h1
  have h2 := h.h2
  have a1 : o.1 * 1 ≤ o.1 * N := Nat.mul_le_mul_left _ hN
  have a2 : o.2 * 1 ≤ o.2 * N := Nat.mul_le_mul_left _ hN
  omega
end Lw

set_option maxHeartbeats 1000000
namespace Lw
open PySem DL
abbrev dI (k : Nat) : D := .int (k : Int)
def pd (l : List Nat) : List D := l.map dI
def dT (x : Nat × Nat) : D := .tup [dI x.1, dI x.2]
theorem c_ln {i : Nat} {j : Int} (h1 : i < 18446744073709551616) : L2.CMul (i : Int) j := c_l (by omega) (by omega)
theorem c_rn {i : Int} {j : Nat} (h1 : j < 18446744073709551616) : L2.CMul i (j : Int) := c_r (by omega) (by omega)
theorem cut_head (ds : List D) (k : Nat) : cutD ds none (some ((k : Nat) : Int)) = ds.take k := by
  unfold cutD
  rw [HT.sIx_none, HT.sIx_nat]
  simp
theorem cut_tail (ds : List D) (k : Nat) : cutD ds (some ((k : Nat) : Int)) none = ds.drop k := by
  unfold cutD
  rw [HT.sIx_none, HT.sIx_nat]
  rcases Nat.le_total k ds.length with h | h
  · rw [Nat.min_eq_left h]
    rw [List.take_of_length_le (by simp)]
  · rw [Nat.min_eq_right h, List.drop_of_length_le h]
    simp
theorem cut_init (ds : List D) (x : D) : cutD (ds ++ [x]) none (some (-1)) = ds := by
  unfold cutD
  rw [HT.sIx_none]
  have e : HT.sIx (ds ++ [x]).length (ds ++ [x]).length (some (-1)) = ds.length := by
    show (if (-1 : Int) < 0 then ((-1 : Int) + ((ds ++ [x]).length : Int)).toNat else min (-1 : Int).toNat (ds ++ [x]).length) = _
    rw [if_pos (show (-1 : Int) < 0 by decide), List.length_append]
    show ((-1 : Int) + ((ds.length + 1 : Nat) : Int)).toNat = ds.length
    omega
  rw [e]
  simp
def pbS (a b : SV) (c : SV) : DS := [a, b, c]
theorem parts_loop : ∀ (d n : Nat) (acc : List Nat), d < 18446744073709551616 → acc.length + (parts n d).length ≤ 1000 →
    ∃ a b, mWhile (mTest (mBin gtD (mVar 1) (mC (.int 0)))) (mSeq
 (mDrop (mMeth 2 fAppend (mCons (mBin fdivD (mVar 0) (mVar 1)) mNil)))
 (mPar 0 1 (mCons (mVar 1) (mCons (mBin modD (mVar 0) (mVar 1)) mNil)))) [.dat (dI n), .dat (dI d), .own (.lst (pd acc))] = .nx [a, b, .own (.lst (pd (acc ++ parts n d)))] := by
  intro d
  induction d using Nat.strongRecOn with
  | ind d ih =>
    intro n acc hd hl
    rw [v_while]
    rcases Nat.eq_zero_or_pos d with z | z
    · subst z
      rw [parts_zero]
      refine ⟨.dat (dI n), .dat (dI 0), ?_⟩
      have e : decide ((0 : Int) < ((0 : Nat) : Int)) = false := rfl
      simp only [v_bok, v_berr, v_sok, v_serr, v_nx, v_rt, v_bk, v_ct, v_er, v_ofs, v_var, v_slot_dat, v_slot_own, v_c, v_bin, v_kbin, v_op2, v_pk2, v_un, v_op1, v_pk1, v_peek_dat, v_peek_fr, v_peek_slot, v_pslot_own, v_pslot_dat, v_cnl, v_test, v_ktest, v_andT, v_kand1, v_kand0, v_orT, v_kor1, v_kor0, v_notT, v_knotT, v_and, v_kAnd1, v_kAnd0, v_or, v_kOr1, v_kOr0, v_not, v_knot, v_if, v_kif1, v_kif0, v_isNone, v_notNone, v_nil, v_cons, v_kcons, v_kcons2, v_fast, v_kfast, v_all0, v_all1, v_kall, v_kall2, v_force_dat, v_force_fr, v_force_slot, v_fslot_own, v_fslot_dat, v_tup, v_ktup, v_lst, v_klst, v_call, v_callF, v_at_ok, v_at_err, v_callB, v_vown, v_kcallB, v_vB, v_atB, v_meth, v_vM, v_methAt, v_vM2, v_vM3, v_append, v_pop, v_cb, v_kcb, v_pkL, v_peeks0, v_peeks1, v_cons22, v_isi, v_sl, v_ksl, v_ksl2, v_ksl3, v_slE_l, v_slE_t, v_slE_r, v_some, v_ksome, v_none, v_revSl, v_iter, v_it_l, v_it_r, v_it_t, v_rng1, v_rng2, v_lc, v_klc, v_klc2, v_yes, v_callV, v_vV, v_vV2, v_seq, v_skip, v_break, v_cont, v_raise, v_drop, v_kdrop, v_ret, v_ret_dat, v_ret_fr, v_ret_slot, v_rslot_own, v_rslot_dat, v_retN, v_ifS, v_kifS1, v_kifS0, v_set, v_put_dat, v_put_fr, v_put_slot, v_kput, v_asg, v_kasg, v_kasg2, v_tgN, v_tgNil, v_tgCons, v_ktg, v_tgT, v_par, v_kpar, v_kpar1, v_kpar2, v_kpar3, v_fix_dat, v_fix_fr, v_fix_slot, v_kfix, v_aug, v_aslot, v_kaug, v_kaug2, v_for, v_try, v_ktry_nx, v_ktry_rt, v_ktry_er, v_ktry2, v_ktry3, v_runF, v_endF_rt, v_endF_nx, v_endF_er, v_runB, v_endB_rt, v_endB_nx, v_add, v_sub, v_mul, v_mod, v_fdiv, v_neg, v_lt, v_cmp, v_eq, v_ne, v_absD, v_int1, v_len_l, v_len_t, v_len_r, v_list_l, v_list_t, v_rev_l, v_rev_r, v_ixt, v_ixl, v_ixr, v_kb_NoneType_bool, v_kb_NoneType_int, v_kb_NoneType_str, v_kb_NoneType_tuple, v_kb_NoneType_list, v_kb_NoneType_dict, v_kb_bool_bool, v_kb_bool_int, v_kb_bool_str, v_kb_bool_tuple, v_kb_bool_list, v_kb_bool_dict, v_kb_int_bool, v_kb_int_int, v_kb_int_str, v_kb_int_tuple, v_kb_int_list, v_kb_int_dict, v_kb_str_bool, v_kb_str_int, v_kb_str_str, v_kb_str_tuple, v_kb_str_list, v_kb_str_dict, v_kb_tuple_bool, v_kb_tuple_int, v_kb_tuple_str, v_kb_tuple_tuple, v_kb_tuple_list, v_kb_tuple_dict, v_kb_list_bool, v_kb_list_int, v_kb_list_str, v_kb_list_tuple, v_kb_list_list, v_kb_list_dict, v_kb_dict_bool, v_kb_dict_int, v_kb_dict_str, v_kb_dict_tuple, v_kb_dict_list, v_kb_dict_dict, v_isi_non, v_isi_bl, v_isi_int, v_isi_str, v_isi_tup, v_isi_lst, v_isi_dct, v_eq_bb, v_ne_bb, v_isNone_non, v_isNone_bl, v_isNone_int, v_isNone_str, v_isNone_tup, v_isNone_lst, List.map_cons, List.map_nil, List.length_cons, List.length_nil, List.cons_append, List.nil_append, List.replicate_succ, List.replicate_zero, List.getElem?_cons_zero, List.getElem?_cons_succ, List.set_cons_zero, List.set_cons_succ, Option.map_some, Nat.reduceSub, Nat.reduceAdd, Nat.reduceLT, Nat.reduceLeDiff, bigN, e, v_kwh0, List.append_nil]
    · have e : decide ((0 : Int) < (d : Int)) = true := decide_eq_true (by omega)
      rw [parts_pos z] at hl ⊢
      simp only [List.length_cons] at hl
      obtain ⟨a, b, h⟩ := ih (n % d) (Nat.mod_lt _ z) d (acc ++ [n / d]) (by have := Nat.mod_lt n z; omega) (by simp; omega)
      refine ⟨a, b, ?_⟩
      have hap : fAppend (pd acc) [dI (n / d)] = some (.non, pd (acc ++ [n / d])) := by
        rw [v_append (by rw [pd, List.length_map]; show _ < 1000000; omega)]
        simp [pd]
      have h1 : (0 : Int) < (d : Int) := by omega
      have h2 := lt250 (m := (d : Int)) (by omega)
      have e3 : ((n : Int) / (d : Int)) = ((n / d : Nat) : Int) := by simp
      have e4 : ((n : Int) % (d : Int)) = ((n % d : Nat) : Int) := by simp
      simp only [v_bok, v_berr, v_sok, v_serr, v_nx, v_rt, v_bk, v_ct, v_er, v_ofs, v_var, v_slot_dat, v_slot_own, v_c, v_bin, v_kbin, v_op2, v_pk2, v_un, v_op1, v_pk1, v_peek_dat, v_peek_fr, v_peek_slot, v_pslot_own, v_pslot_dat, v_cnl, v_test, v_ktest, v_andT, v_kand1, v_kand0, v_orT, v_kor1, v_kor0, v_notT, v_knotT, v_and, v_kAnd1, v_kAnd0, v_or, v_kOr1, v_kOr0, v_not, v_knot, v_if, v_kif1, v_kif0, v_isNone, v_notNone, v_nil, v_cons, v_kcons, v_kcons2, v_fast, v_kfast, v_all0, v_all1, v_kall, v_kall2, v_force_dat, v_force_fr, v_force_slot, v_fslot_own, v_fslot_dat, v_tup, v_ktup, v_lst, v_klst, v_call, v_callF, v_at_ok, v_at_err, v_callB, v_vown, v_kcallB, v_vB, v_atB, v_meth, v_vM, v_methAt, v_vM2, v_vM3, v_append, v_pop, v_cb, v_kcb, v_pkL, v_peeks0, v_peeks1, v_cons22, v_isi, v_sl, v_ksl, v_ksl2, v_ksl3, v_slE_l, v_slE_t, v_slE_r, v_some, v_ksome, v_none, v_revSl, v_iter, v_it_l, v_it_r, v_it_t, v_rng1, v_rng2, v_lc, v_klc, v_klc2, v_yes, v_callV, v_vV, v_vV2, v_seq, v_skip, v_break, v_cont, v_raise, v_drop, v_kdrop, v_ret, v_ret_dat, v_ret_fr, v_ret_slot, v_rslot_own, v_rslot_dat, v_retN, v_ifS, v_kifS1, v_kifS0, v_set, v_put_dat, v_put_fr, v_put_slot, v_kput, v_asg, v_kasg, v_kasg2, v_tgN, v_tgNil, v_tgCons, v_ktg, v_tgT, v_par, v_kpar, v_kpar1, v_kpar2, v_kpar3, v_fix_dat, v_fix_fr, v_fix_slot, v_kfix, v_aug, v_aslot, v_kaug, v_kaug2, v_for, v_try, v_ktry_nx, v_ktry_rt, v_ktry_er, v_ktry2, v_ktry3, v_runF, v_endF_rt, v_endF_nx, v_endF_er, v_runB, v_endB_rt, v_endB_nx, v_add, v_sub, v_mul, v_mod, v_fdiv, v_neg, v_lt, v_cmp, v_eq, v_ne, v_absD, v_int1, v_len_l, v_len_t, v_len_r, v_list_l, v_list_t, v_rev_l, v_rev_r, v_ixt, v_ixl, v_ixr, v_kb_NoneType_bool, v_kb_NoneType_int, v_kb_NoneType_str, v_kb_NoneType_tuple, v_kb_NoneType_list, v_kb_NoneType_dict, v_kb_bool_bool, v_kb_bool_int, v_kb_bool_str, v_kb_bool_tuple, v_kb_bool_list, v_kb_bool_dict, v_kb_int_bool, v_kb_int_int, v_kb_int_str, v_kb_int_tuple, v_kb_int_list, v_kb_int_dict, v_kb_str_bool, v_kb_str_int, v_kb_str_str, v_kb_str_tuple, v_kb_str_list, v_kb_str_dict, v_kb_tuple_bool, v_kb_tuple_int, v_kb_tuple_str, v_kb_tuple_tuple, v_kb_tuple_list, v_kb_tuple_dict, v_kb_list_bool, v_kb_list_int, v_kb_list_str, v_kb_list_tuple, v_kb_list_list, v_kb_list_dict, v_kb_dict_bool, v_kb_dict_int, v_kb_dict_str, v_kb_dict_tuple, v_kb_dict_list, v_kb_dict_dict, v_isi_non, v_isi_bl, v_isi_int, v_isi_str, v_isi_tup, v_isi_lst, v_isi_dct, v_eq_bb, v_ne_bb, v_isNone_non, v_isNone_bl, v_isNone_int, v_isNone_str, v_isNone_tup, v_isNone_lst, List.map_cons, List.map_nil, List.length_cons, List.length_nil, List.cons_append, List.nil_append, List.replicate_succ, List.replicate_zero, List.getElem?_cons_zero, List.getElem?_cons_succ, List.set_cons_zero, List.set_cons_succ, Option.map_some, Nat.reduceSub, Nat.reduceAdd, Nat.reduceLT, Nat.reduceLeDiff, bigN, e, v_kwh1, v_fdiv h1 h2, v_mod (show (d : Int) ≠ 0 by omega), fd (Int.le_of_lt h1), fm (Int.le_of_lt h1), e3, e4, hap, v_kwh_nx]
      rw [h, List.append_assoc]
      rfl
theorem e_parts_by {n d : Nat} (hd : d < 2 ^ 60) : F_parts_by [dI n, dI d] = .ok (.fr (.lst (pd (parts n d)))) := by
  have hl := parts_len 60 n d hd
  obtain ⟨a, b, h⟩ := parts_loop d n [] (by show d < 18446744073709551616; have : (2 : Nat) ^ 60 = 1152921504606846976 := rfl; omega) (by simp; omega)
  unfold F_parts_by M_parts_by
  have e : pd [] = [] := rfl
  rw [e, List.nil_append] at h
  simp only [v_bok, v_berr, v_sok, v_serr, v_nx, v_rt, v_bk, v_ct, v_er, v_ofs, v_var, v_slot_dat, v_slot_own, v_c, v_bin, v_kbin, v_op2, v_pk2, v_un, v_op1, v_pk1, v_peek_dat, v_peek_fr, v_peek_slot, v_pslot_own, v_pslot_dat, v_cnl, v_test, v_ktest, v_andT, v_kand1, v_kand0, v_orT, v_kor1, v_kor0, v_notT, v_knotT, v_and, v_kAnd1, v_kAnd0, v_or, v_kOr1, v_kOr0, v_not, v_knot, v_if, v_kif1, v_kif0, v_isNone, v_notNone, v_nil, v_cons, v_kcons, v_kcons2, v_fast, v_kfast, v_all0, v_all1, v_kall, v_kall2, v_force_dat, v_force_fr, v_force_slot, v_fslot_own, v_fslot_dat, v_tup, v_ktup, v_lst, v_klst, v_call, v_callF, v_at_ok, v_at_err, v_callB, v_vown, v_kcallB, v_vB, v_atB, v_meth, v_vM, v_methAt, v_vM2, v_vM3, v_append, v_pop, v_cb, v_kcb, v_pkL, v_peeks0, v_peeks1, v_cons22, v_isi, v_sl, v_ksl, v_ksl2, v_ksl3, v_slE_l, v_slE_t, v_slE_r, v_some, v_ksome, v_none, v_revSl, v_iter, v_it_l, v_it_r, v_it_t, v_rng1, v_rng2, v_lc, v_klc, v_klc2, v_yes, v_callV, v_vV, v_vV2, v_seq, v_skip, v_break, v_cont, v_raise, v_drop, v_kdrop, v_ret, v_ret_dat, v_ret_fr, v_ret_slot, v_rslot_own, v_rslot_dat, v_retN, v_ifS, v_kifS1, v_kifS0, v_set, v_put_dat, v_put_fr, v_put_slot, v_kput, v_asg, v_kasg, v_kasg2, v_tgN, v_tgNil, v_tgCons, v_ktg, v_tgT, v_par, v_kpar, v_kpar1, v_kpar2, v_kpar3, v_fix_dat, v_fix_fr, v_fix_slot, v_kfix, v_aug, v_aslot, v_kaug, v_kaug2, v_for, v_try, v_ktry_nx, v_ktry_rt, v_ktry_er, v_ktry2, v_ktry3, v_runF, v_endF_rt, v_endF_nx, v_endF_er, v_runB, v_endB_rt, v_endB_nx, v_add, v_sub, v_mul, v_mod, v_fdiv, v_neg, v_lt, v_cmp, v_eq, v_ne, v_absD, v_int1, v_len_l, v_len_t, v_len_r, v_list_l, v_list_t, v_rev_l, v_rev_r, v_ixt, v_ixl, v_ixr, v_kb_NoneType_bool, v_kb_NoneType_int, v_kb_NoneType_str, v_kb_NoneType_tuple, v_kb_NoneType_list, v_kb_NoneType_dict, v_kb_bool_bool, v_kb_bool_int, v_kb_bool_str, v_kb_bool_tuple, v_kb_bool_list, v_kb_bool_dict, v_kb_int_bool, v_kb_int_int, v_kb_int_str, v_kb_int_tuple, v_kb_int_list, v_kb_int_dict, v_kb_str_bool, v_kb_str_int, v_kb_str_str, v_kb_str_tuple, v_kb_str_list, v_kb_str_dict, v_kb_tuple_bool, v_kb_tuple_int, v_kb_tuple_str, v_kb_tuple_tuple, v_kb_tuple_list, v_kb_tuple_dict, v_kb_list_bool, v_kb_list_int, v_kb_list_str, v_kb_list_tuple, v_kb_list_list, v_kb_list_dict, v_kb_dict_bool, v_kb_dict_int, v_kb_dict_str, v_kb_dict_tuple, v_kb_dict_list, v_kb_dict_dict, v_isi_non, v_isi_bl, v_isi_int, v_isi_str, v_isi_tup, v_isi_lst, v_isi_dct, v_eq_bb, v_ne_bb, v_isNone_non, v_isNone_bl, v_isNone_int, v_isNone_str, v_isNone_tup, v_isNone_lst, List.map_cons, List.map_nil, List.length_cons, List.length_nil, List.cons_append, List.nil_append, List.replicate_succ, List.replicate_zero, List.getElem?_cons_zero, List.getElem?_cons_succ, List.set_cons_zero, List.set_cons_succ, Option.map_some, Nat.reduceSub, Nat.reduceAdd, Nat.reduceLT, Nat.reduceLeDiff, bigN, h]
theorem e_check_ratio {n d : Nat} (hd : 0 < d) : F_check_ratio [dI n, dI d] = .ok (.dat .non) := by
  have hk := (e_check (ds := [dI n, dI d]) (fun x hx => by simp only [List.mem_cons, List.not_mem_nil, or_false] at hx; rcases hx with rfl | rfl <;> rfl) (by simp)).trans (if_pos rfl)
  unfold F_check_ratio M_check_ratio
  simp only [v_bok, v_berr, v_sok, v_serr, v_nx, v_rt, v_bk, v_ct, v_er, v_ofs, v_var, v_slot_dat, v_slot_own, v_c, v_bin, v_kbin, v_op2, v_pk2, v_un, v_op1, v_pk1, v_peek_dat, v_peek_fr, v_peek_slot, v_pslot_own, v_pslot_dat, v_cnl, v_test, v_ktest, v_andT, v_kand1, v_kand0, v_orT, v_kor1, v_kor0, v_notT, v_knotT, v_and, v_kAnd1, v_kAnd0, v_or, v_kOr1, v_kOr0, v_not, v_knot, v_if, v_kif1, v_kif0, v_isNone, v_notNone, v_nil, v_cons, v_kcons, v_kcons2, v_fast, v_kfast, v_all0, v_all1, v_kall, v_kall2, v_force_dat, v_force_fr, v_force_slot, v_fslot_own, v_fslot_dat, v_tup, v_ktup, v_lst, v_klst, v_call, v_callF, v_at_ok, v_at_err, v_callB, v_vown, v_kcallB, v_vB, v_atB, v_meth, v_vM, v_methAt, v_vM2, v_vM3, v_append, v_pop, v_cb, v_kcb, v_pkL, v_peeks0, v_peeks1, v_cons22, v_isi, v_sl, v_ksl, v_ksl2, v_ksl3, v_slE_l, v_slE_t, v_slE_r, v_some, v_ksome, v_none, v_revSl, v_iter, v_it_l, v_it_r, v_it_t, v_rng1, v_rng2, v_lc, v_klc, v_klc2, v_yes, v_callV, v_vV, v_vV2, v_seq, v_skip, v_break, v_cont, v_raise, v_drop, v_kdrop, v_ret, v_ret_dat, v_ret_fr, v_ret_slot, v_rslot_own, v_rslot_dat, v_retN, v_ifS, v_kifS1, v_kifS0, v_set, v_put_dat, v_put_fr, v_put_slot, v_kput, v_asg, v_kasg, v_kasg2, v_tgN, v_tgNil, v_tgCons, v_ktg, v_tgT, v_par, v_kpar, v_kpar1, v_kpar2, v_kpar3, v_fix_dat, v_fix_fr, v_fix_slot, v_kfix, v_aug, v_aslot, v_kaug, v_kaug2, v_for, v_try, v_ktry_nx, v_ktry_rt, v_ktry_er, v_ktry2, v_ktry3, v_runF, v_endF_rt, v_endF_nx, v_endF_er, v_runB, v_endB_rt, v_endB_nx, v_add, v_sub, v_mul, v_mod, v_fdiv, v_neg, v_lt, v_cmp, v_eq, v_ne, v_absD, v_int1, v_len_l, v_len_t, v_len_r, v_list_l, v_list_t, v_rev_l, v_rev_r, v_ixt, v_ixl, v_ixr, v_kb_NoneType_bool, v_kb_NoneType_int, v_kb_NoneType_str, v_kb_NoneType_tuple, v_kb_NoneType_list, v_kb_NoneType_dict, v_kb_bool_bool, v_kb_bool_int, v_kb_bool_str, v_kb_bool_tuple, v_kb_bool_list, v_kb_bool_dict, v_kb_int_bool, v_kb_int_int, v_kb_int_str, v_kb_int_tuple, v_kb_int_list, v_kb_int_dict, v_kb_str_bool, v_kb_str_int, v_kb_str_str, v_kb_str_tuple, v_kb_str_list, v_kb_str_dict, v_kb_tuple_bool, v_kb_tuple_int, v_kb_tuple_str, v_kb_tuple_tuple, v_kb_tuple_list, v_kb_tuple_dict, v_kb_list_bool, v_kb_list_int, v_kb_list_str, v_kb_list_tuple, v_kb_list_list, v_kb_list_dict, v_kb_dict_bool, v_kb_dict_int, v_kb_dict_str, v_kb_dict_tuple, v_kb_dict_list, v_kb_dict_dict, v_isi_non, v_isi_bl, v_isi_int, v_isi_str, v_isi_tup, v_isi_lst, v_isi_dct, v_eq_bb, v_ne_bb, v_isNone_non, v_isNone_bl, v_isNone_int, v_isNone_str, v_isNone_tup, v_isNone_lst, List.map_cons, List.map_nil, List.length_cons, List.length_nil, List.cons_append, List.nil_append, List.replicate_succ, List.replicate_zero, List.getElem?_cons_zero, List.getElem?_cons_succ, List.set_cons_zero, List.set_cons_succ, Option.map_some, Nat.reduceSub, Nat.reduceAdd, Nat.reduceLT, Nat.reduceLeDiff, bigN, hk, decide_eq_false (show ¬ (n : Int) < 0 by omega), decide_eq_false (show ¬ (d : Int) < 1 by omega)]
theorem e_parts_of {n d : Nat} (h0 : 0 < d) (hd : d < 2 ^ 60) : F_parts_of_ratio [dI n, dI d] = .ok (.fr (.lst (pd (parts n d)))) := by
  unfold F_parts_of_ratio M_parts_of_ratio
  simp only [v_bok, v_berr, v_sok, v_serr, v_nx, v_rt, v_bk, v_ct, v_er, v_ofs, v_var, v_slot_dat, v_slot_own, v_c, v_bin, v_kbin, v_op2, v_pk2, v_un, v_op1, v_pk1, v_peek_dat, v_peek_fr, v_peek_slot, v_pslot_own, v_pslot_dat, v_cnl, v_test, v_ktest, v_andT, v_kand1, v_kand0, v_orT, v_kor1, v_kor0, v_notT, v_knotT, v_and, v_kAnd1, v_kAnd0, v_or, v_kOr1, v_kOr0, v_not, v_knot, v_if, v_kif1, v_kif0, v_isNone, v_notNone, v_nil, v_cons, v_kcons, v_kcons2, v_fast, v_kfast, v_all0, v_all1, v_kall, v_kall2, v_force_dat, v_force_fr, v_force_slot, v_fslot_own, v_fslot_dat, v_tup, v_ktup, v_lst, v_klst, v_call, v_callF, v_at_ok, v_at_err, v_callB, v_vown, v_kcallB, v_vB, v_atB, v_meth, v_vM, v_methAt, v_vM2, v_vM3, v_append, v_pop, v_cb, v_kcb, v_pkL, v_peeks0, v_peeks1, v_cons22, v_isi, v_sl, v_ksl, v_ksl2, v_ksl3, v_slE_l, v_slE_t, v_slE_r, v_some, v_ksome, v_none, v_revSl, v_iter, v_it_l, v_it_r, v_it_t, v_rng1, v_rng2, v_lc, v_klc, v_klc2, v_yes, v_callV, v_vV, v_vV2, v_seq, v_skip, v_break, v_cont, v_raise, v_drop, v_kdrop, v_ret, v_ret_dat, v_ret_fr, v_ret_slot, v_rslot_own, v_rslot_dat, v_retN, v_ifS, v_kifS1, v_kifS0, v_set, v_put_dat, v_put_fr, v_put_slot, v_kput, v_asg, v_kasg, v_kasg2, v_tgN, v_tgNil, v_tgCons, v_ktg, v_tgT, v_par, v_kpar, v_kpar1, v_kpar2, v_kpar3, v_fix_dat, v_fix_fr, v_fix_slot, v_kfix, v_aug, v_aslot, v_kaug, v_kaug2, v_for, v_try, v_ktry_nx, v_ktry_rt, v_ktry_er, v_ktry2, v_ktry3, v_runF, v_endF_rt, v_endF_nx, v_endF_er, v_runB, v_endB_rt, v_endB_nx, v_add, v_sub, v_mul, v_mod, v_fdiv, v_neg, v_lt, v_cmp, v_eq, v_ne, v_absD, v_int1, v_len_l, v_len_t, v_len_r, v_list_l, v_list_t, v_rev_l, v_rev_r, v_ixt, v_ixl, v_ixr, v_kb_NoneType_bool, v_kb_NoneType_int, v_kb_NoneType_str, v_kb_NoneType_tuple, v_kb_NoneType_list, v_kb_NoneType_dict, v_kb_bool_bool, v_kb_bool_int, v_kb_bool_str, v_kb_bool_tuple, v_kb_bool_list, v_kb_bool_dict, v_kb_int_bool, v_kb_int_int, v_kb_int_str, v_kb_int_tuple, v_kb_int_list, v_kb_int_dict, v_kb_str_bool, v_kb_str_int, v_kb_str_str, v_kb_str_tuple, v_kb_str_list, v_kb_str_dict, v_kb_tuple_bool, v_kb_tuple_int, v_kb_tuple_str, v_kb_tuple_tuple, v_kb_tuple_list, v_kb_tuple_dict, v_kb_list_bool, v_kb_list_int, v_kb_list_str, v_kb_list_tuple, v_kb_list_list, v_kb_list_dict, v_kb_dict_bool, v_kb_dict_int, v_kb_dict_str, v_kb_dict_tuple, v_kb_dict_list, v_kb_dict_dict, v_isi_non, v_isi_bl, v_isi_int, v_isi_str, v_isi_tup, v_isi_lst, v_isi_dct, v_eq_bb, v_ne_bb, v_isNone_non, v_isNone_bl, v_isNone_int, v_isNone_str, v_isNone_tup, v_isNone_lst, List.map_cons, List.map_nil, List.length_cons, List.length_nil, List.cons_append, List.nil_append, List.replicate_succ, List.replicate_zero, List.getElem?_cons_zero, List.getElem?_cons_succ, List.set_cons_zero, List.set_cons_succ, Option.map_some, Nat.reduceSub, Nat.reduceAdd, Nat.reduceLT, Nat.reduceLeDiff, bigN, e_check_ratio h0, e_parts_by hd]
def dTs (l : List (Nat × Nat)) : List D := l.map dT
theorem near_loop {n d : Nat} (hn : n < 2 ^ 60) (hd : d < 2 ^ 60) : ∀ (M N : Nat) (o e : Nat × Nat) (s : Int) (acc : List (Nat × Nat)) (x : SV), At n d N M o e s → o.1 ≤ n + 1 ∧ o.2 ≤ d + 1 → acc.length + (parts N M).length ≤ 1000 →
    ∃ a b c, forL (tgN 5) (mSeq
 (mPar 2 3 (mCons (mTup (mCons (mBin addD (mBin mulD (mVar 5) (mBin ixD (mVar 2) (mC (.int 0)))) (mBin ixD (mVar 3) (mC (.int 0)))) (mCons (mBin addD (mBin mulD (mVar 5) (mBin ixD (mVar 2) (mC (.int 1)))) (mBin ixD (mVar 3) (mC (.int 1)))) mNil))) (mCons (mVar 2) mNil)))
 (mDrop (mMeth 4 fAppend (mCons (mVar 2) mNil)))) (pd (parts N M)) [.dat (dI n), .dat (dI d), .dat (dT o), .dat (dT e), .own (.lst (dTs acc)), x] = .nx [.dat (dI n), .dat (dI d), a, b, .own (.lst (dTs (acc ++ go (parts N M) o e))), c] := by
  intro M
  induction M using Nat.strongRecOn with
  | ind M ih =>
    intro N o e s acc x hA hb hl
    rcases Nat.eq_zero_or_pos M with z | z
    · subst z
      rw [parts_zero]
      refine ⟨.dat (dT o), .dat (dT e), x, ?_⟩
      rw [show pd [] = [] from rfl, v_for0, show go [] o e = [] from rfl, List.append_nil]
    · rw [parts_pos z] at hl ⊢
      simp only [List.length_cons] at hl
      have hA2 := hA.next
      have hle := hA2.le z
      have e60 : (2 : Nat) ^ 60 = 1152921504606846976 := rfl
      obtain ⟨a, b, c, h⟩ := ih (N % M) (Nat.mod_lt _ z) M _ _ _ (acc ++ [(N / M * o.1 + e.1, N / M * o.2 + e.2)]) (.dat (dI (N / M))) hA2 (by omega) (by simp; omega)
      refine ⟨a, b, c, ?_⟩
      have k1 : L2.CMul ((N / M : Nat) : Int) (o.1 : Int) := c_rn (by show o.1 < 18446744073709551616; omega)
      have k2 : L2.CMul ((N / M : Nat) : Int) (o.2 : Int) := c_rn (by show o.2 < 18446744073709551616; omega)
      have a0 : ∀ x y : D, L2.atI [x, y] 0 = some x := fun _ _ => rfl
      have a1 : ∀ x y : D, L2.atI [x, y] 1 = some y := fun _ _ => rfl
      have hap : fAppend (dTs acc) [dT (N / M * o.1 + e.1, N / M * o.2 + e.2)] = some (.non, dTs (acc ++ [(N / M * o.1 + e.1, N / M * o.2 + e.2)])) := by
        rw [v_append (by rw [dTs, List.length_map]; show _ < 1000000; omega)]
        simp [dTs]
      have e1 : ((N / M : Nat) : Int) * (o.1 : Int) + (e.1 : Int) = ((N / M * o.1 + e.1 : Nat) : Int) := by push_cast; rfl
      have e2 : ((N / M : Nat) : Int) * (o.2 : Int) + (e.2 : Int) = ((N / M * o.2 + e.2 : Nat) : Int) := by push_cast; rfl
      rw [show pd (N / M :: parts M (N % M)) = dI (N / M) :: pd (parts M (N % M)) from rfl, v_for1, v_tgN, v_kfor]
      have hT : ∀ y : Nat × Nat, dT y = .tup [.int y.1, .int y.2] := fun _ => rfl
      rw [hT o, hT e]
      simp only [v_bok, v_berr, v_sok, v_serr, v_nx, v_rt, v_bk, v_ct, v_er, v_ofs, v_var, v_slot_dat, v_slot_own, v_c, v_bin, v_kbin, v_op2, v_pk2, v_un, v_op1, v_pk1, v_peek_dat, v_peek_fr, v_peek_slot, v_pslot_own, v_pslot_dat, v_cnl, v_test, v_ktest, v_andT, v_kand1, v_kand0, v_orT, v_kor1, v_kor0, v_notT, v_knotT, v_and, v_kAnd1, v_kAnd0, v_or, v_kOr1, v_kOr0, v_not, v_knot, v_if, v_kif1, v_kif0, v_isNone, v_notNone, v_nil, v_cons, v_kcons, v_kcons2, v_fast, v_kfast, v_all0, v_all1, v_kall, v_kall2, v_force_dat, v_force_fr, v_force_slot, v_fslot_own, v_fslot_dat, v_tup, v_ktup, v_lst, v_klst, v_call, v_callF, v_at_ok, v_at_err, v_callB, v_vown, v_kcallB, v_vB, v_atB, v_meth, v_vM, v_methAt, v_vM2, v_vM3, v_append, v_pop, v_cb, v_kcb, v_pkL, v_peeks0, v_peeks1, v_cons22, v_isi, v_sl, v_ksl, v_ksl2, v_ksl3, v_slE_l, v_slE_t, v_slE_r, v_some, v_ksome, v_none, v_revSl, v_iter, v_it_l, v_it_r, v_it_t, v_rng1, v_rng2, v_lc, v_klc, v_klc2, v_yes, v_callV, v_vV, v_vV2, v_seq, v_skip, v_break, v_cont, v_raise, v_drop, v_kdrop, v_ret, v_ret_dat, v_ret_fr, v_ret_slot, v_rslot_own, v_rslot_dat, v_retN, v_ifS, v_kifS1, v_kifS0, v_set, v_put_dat, v_put_fr, v_put_slot, v_kput, v_asg, v_kasg, v_kasg2, v_tgN, v_tgNil, v_tgCons, v_ktg, v_tgT, v_par, v_kpar, v_kpar1, v_kpar2, v_kpar3, v_fix_dat, v_fix_fr, v_fix_slot, v_kfix, v_aug, v_aslot, v_kaug, v_kaug2, v_for, v_try, v_ktry_nx, v_ktry_rt, v_ktry_er, v_ktry2, v_ktry3, v_runF, v_endF_rt, v_endF_nx, v_endF_er, v_runB, v_endB_rt, v_endB_nx, v_add, v_sub, v_mul, v_mod, v_fdiv, v_neg, v_lt, v_cmp, v_eq, v_ne, v_absD, v_int1, v_len_l, v_len_t, v_len_r, v_list_l, v_list_t, v_rev_l, v_rev_r, v_ixt, v_ixl, v_ixr, v_kb_NoneType_bool, v_kb_NoneType_int, v_kb_NoneType_str, v_kb_NoneType_tuple, v_kb_NoneType_list, v_kb_NoneType_dict, v_kb_bool_bool, v_kb_bool_int, v_kb_bool_str, v_kb_bool_tuple, v_kb_bool_list, v_kb_bool_dict, v_kb_int_bool, v_kb_int_int, v_kb_int_str, v_kb_int_tuple, v_kb_int_list, v_kb_int_dict, v_kb_str_bool, v_kb_str_int, v_kb_str_str, v_kb_str_tuple, v_kb_str_list, v_kb_str_dict, v_kb_tuple_bool, v_kb_tuple_int, v_kb_tuple_str, v_kb_tuple_tuple, v_kb_tuple_list, v_kb_tuple_dict, v_kb_list_bool, v_kb_list_int, v_kb_list_str, v_kb_list_tuple, v_kb_list_list, v_kb_list_dict, v_kb_dict_bool, v_kb_dict_int, v_kb_dict_str, v_kb_dict_tuple, v_kb_dict_list, v_kb_dict_dict, v_isi_non, v_isi_bl, v_isi_int, v_isi_str, v_isi_tup, v_isi_lst, v_isi_dct, v_eq_bb, v_ne_bb, v_isNone_non, v_isNone_bl, v_isNone_int, v_isNone_str, v_isNone_tup, v_isNone_lst, List.map_cons, List.map_nil, List.length_cons, List.length_nil, List.cons_append, List.nil_append, List.replicate_succ, List.replicate_zero, List.getElem?_cons_zero, List.getElem?_cons_succ, List.set_cons_zero, List.set_cons_succ, Option.map_some, Nat.reduceSub, Nat.reduceAdd, Nat.reduceLT, Nat.reduceLeDiff, bigN, v_mul k1, v_mul k2, a0, a1, e1, e2]
      rw [show D.tup [.int ((N / M * o.1 + e.1 : Nat) : Int), .int ((N / M * o.2 + e.2 : Nat) : Int)] = dT (N / M * o.1 + e.1, N / M * o.2 + e.2) from rfl, hap]
      simp only [v_bok, v_berr, v_sok, v_serr, v_nx, v_rt, v_bk, v_ct, v_er, v_ofs, v_var, v_slot_dat, v_slot_own, v_c, v_bin, v_kbin, v_op2, v_pk2, v_un, v_op1, v_pk1, v_peek_dat, v_peek_fr, v_peek_slot, v_pslot_own, v_pslot_dat, v_cnl, v_test, v_ktest, v_andT, v_kand1, v_kand0, v_orT, v_kor1, v_kor0, v_notT, v_knotT, v_and, v_kAnd1, v_kAnd0, v_or, v_kOr1, v_kOr0, v_not, v_knot, v_if, v_kif1, v_kif0, v_isNone, v_notNone, v_nil, v_cons, v_kcons, v_kcons2, v_fast, v_kfast, v_all0, v_all1, v_kall, v_kall2, v_force_dat, v_force_fr, v_force_slot, v_fslot_own, v_fslot_dat, v_tup, v_ktup, v_lst, v_klst, v_call, v_callF, v_at_ok, v_at_err, v_callB, v_vown, v_kcallB, v_vB, v_atB, v_meth, v_vM, v_methAt, v_vM2, v_vM3, v_append, v_pop, v_cb, v_kcb, v_pkL, v_peeks0, v_peeks1, v_cons22, v_isi, v_sl, v_ksl, v_ksl2, v_ksl3, v_slE_l, v_slE_t, v_slE_r, v_some, v_ksome, v_none, v_revSl, v_iter, v_it_l, v_it_r, v_it_t, v_rng1, v_rng2, v_lc, v_klc, v_klc2, v_yes, v_callV, v_vV, v_vV2, v_seq, v_skip, v_break, v_cont, v_raise, v_drop, v_kdrop, v_ret, v_ret_dat, v_ret_fr, v_ret_slot, v_rslot_own, v_rslot_dat, v_retN, v_ifS, v_kifS1, v_kifS0, v_set, v_put_dat, v_put_fr, v_put_slot, v_kput, v_asg, v_kasg, v_kasg2, v_tgN, v_tgNil, v_tgCons, v_ktg, v_tgT, v_par, v_kpar, v_kpar1, v_kpar2, v_kpar3, v_fix_dat, v_fix_fr, v_fix_slot, v_kfix, v_aug, v_aslot, v_kaug, v_kaug2, v_for, v_try, v_ktry_nx, v_ktry_rt, v_ktry_er, v_ktry2, v_ktry3, v_runF, v_endF_rt, v_endF_nx, v_endF_er, v_runB, v_endB_rt, v_endB_nx, v_add, v_sub, v_mul, v_mod, v_fdiv, v_neg, v_lt, v_cmp, v_eq, v_ne, v_absD, v_int1, v_len_l, v_len_t, v_len_r, v_list_l, v_list_t, v_rev_l, v_rev_r, v_ixt, v_ixl, v_ixr, v_kb_NoneType_bool, v_kb_NoneType_int, v_kb_NoneType_str, v_kb_NoneType_tuple, v_kb_NoneType_list, v_kb_NoneType_dict, v_kb_bool_bool, v_kb_bool_int, v_kb_bool_str, v_kb_bool_tuple, v_kb_bool_list, v_kb_bool_dict, v_kb_int_bool, v_kb_int_int, v_kb_int_str, v_kb_int_tuple, v_kb_int_list, v_kb_int_dict, v_kb_str_bool, v_kb_str_int, v_kb_str_str, v_kb_str_tuple, v_kb_str_list, v_kb_str_dict, v_kb_tuple_bool, v_kb_tuple_int, v_kb_tuple_str, v_kb_tuple_tuple, v_kb_tuple_list, v_kb_tuple_dict, v_kb_list_bool, v_kb_list_int, v_kb_list_str, v_kb_list_tuple, v_kb_list_list, v_kb_list_dict, v_kb_dict_bool, v_kb_dict_int, v_kb_dict_str, v_kb_dict_tuple, v_kb_dict_list, v_kb_dict_dict, v_isi_non, v_isi_bl, v_isi_int, v_isi_str, v_isi_tup, v_isi_lst, v_isi_dct, v_eq_bb, v_ne_bb, v_isNone_non, v_isNone_bl, v_isNone_int, v_isNone_str, v_isNone_tup, v_isNone_lst, List.map_cons, List.map_nil, List.length_cons, List.length_nil, List.cons_append, List.nil_append, List.replicate_succ, List.replicate_zero, List.getElem?_cons_zero, List.getElem?_cons_succ, List.set_cons_zero, List.set_cons_succ, Option.map_some, Nat.reduceSub, Nat.reduceAdd, Nat.reduceLT, Nat.reduceLeDiff, bigN, v_kfor_nx]
      rw [show D.tup [.int (o.1 : Int), .int (o.2 : Int)] = dT o from rfl, h, List.append_assoc]
      rfl
def near (n d : Nat) : List (Nat × Nat) := go (parts n d) (1, 0) (0, 1)
theorem e_near_ratios {n d : Nat} (h0 : 0 < d) (hn : n < 2 ^ 60) (hd : d < 2 ^ 60) : F_near_ratios [dI n, dI d] = .ok (.fr (.lst (dTs (near n d)))) := by
  have hl := parts_len 60 n d hd
  obtain ⟨a, b, c, h⟩ := near_loop hn hd d n (1, 0) (0, 1) 1 [] .emp (at_start n d) (by simp) (by simp; omega)
  unfold F_near_ratios M_near_ratios
  have e : dTs [] = [] := rfl
  rw [e, List.nil_append] at h
  have hT0 : dT (1, 0) = .tup [.int 1, .int 0] := rfl
  have hT1 : dT (0, 1) = .tup [.int 0, .int 1] := rfl
  rw [hT0, hT1] at h
  simp only [v_bok, v_berr, v_sok, v_serr, v_nx, v_rt, v_bk, v_ct, v_er, v_ofs, v_var, v_slot_dat, v_slot_own, v_c, v_bin, v_kbin, v_op2, v_pk2, v_un, v_op1, v_pk1, v_peek_dat, v_peek_fr, v_peek_slot, v_pslot_own, v_pslot_dat, v_cnl, v_test, v_ktest, v_andT, v_kand1, v_kand0, v_orT, v_kor1, v_kor0, v_notT, v_knotT, v_and, v_kAnd1, v_kAnd0, v_or, v_kOr1, v_kOr0, v_not, v_knot, v_if, v_kif1, v_kif0, v_isNone, v_notNone, v_nil, v_cons, v_kcons, v_kcons2, v_fast, v_kfast, v_all0, v_all1, v_kall, v_kall2, v_force_dat, v_force_fr, v_force_slot, v_fslot_own, v_fslot_dat, v_tup, v_ktup, v_lst, v_klst, v_call, v_callF, v_at_ok, v_at_err, v_callB, v_vown, v_kcallB, v_vB, v_atB, v_meth, v_vM, v_methAt, v_vM2, v_vM3, v_append, v_pop, v_cb, v_kcb, v_pkL, v_peeks0, v_peeks1, v_cons22, v_isi, v_sl, v_ksl, v_ksl2, v_ksl3, v_slE_l, v_slE_t, v_slE_r, v_some, v_ksome, v_none, v_revSl, v_iter, v_it_l, v_it_r, v_it_t, v_rng1, v_rng2, v_lc, v_klc, v_klc2, v_yes, v_callV, v_vV, v_vV2, v_seq, v_skip, v_break, v_cont, v_raise, v_drop, v_kdrop, v_ret, v_ret_dat, v_ret_fr, v_ret_slot, v_rslot_own, v_rslot_dat, v_retN, v_ifS, v_kifS1, v_kifS0, v_set, v_put_dat, v_put_fr, v_put_slot, v_kput, v_asg, v_kasg, v_kasg2, v_tgN, v_tgNil, v_tgCons, v_ktg, v_tgT, v_par, v_kpar, v_kpar1, v_kpar2, v_kpar3, v_fix_dat, v_fix_fr, v_fix_slot, v_kfix, v_aug, v_aslot, v_kaug, v_kaug2, v_for, v_try, v_ktry_nx, v_ktry_rt, v_ktry_er, v_ktry2, v_ktry3, v_runF, v_endF_rt, v_endF_nx, v_endF_er, v_runB, v_endB_rt, v_endB_nx, v_add, v_sub, v_mul, v_mod, v_fdiv, v_neg, v_lt, v_cmp, v_eq, v_ne, v_absD, v_int1, v_len_l, v_len_t, v_len_r, v_list_l, v_list_t, v_rev_l, v_rev_r, v_ixt, v_ixl, v_ixr, v_kb_NoneType_bool, v_kb_NoneType_int, v_kb_NoneType_str, v_kb_NoneType_tuple, v_kb_NoneType_list, v_kb_NoneType_dict, v_kb_bool_bool, v_kb_bool_int, v_kb_bool_str, v_kb_bool_tuple, v_kb_bool_list, v_kb_bool_dict, v_kb_int_bool, v_kb_int_int, v_kb_int_str, v_kb_int_tuple, v_kb_int_list, v_kb_int_dict, v_kb_str_bool, v_kb_str_int, v_kb_str_str, v_kb_str_tuple, v_kb_str_list, v_kb_str_dict, v_kb_tuple_bool, v_kb_tuple_int, v_kb_tuple_str, v_kb_tuple_tuple, v_kb_tuple_list, v_kb_tuple_dict, v_kb_list_bool, v_kb_list_int, v_kb_list_str, v_kb_list_tuple, v_kb_list_list, v_kb_list_dict, v_kb_dict_bool, v_kb_dict_int, v_kb_dict_str, v_kb_dict_tuple, v_kb_dict_list, v_kb_dict_dict, v_isi_non, v_isi_bl, v_isi_int, v_isi_str, v_isi_tup, v_isi_lst, v_isi_dct, v_eq_bb, v_ne_bb, v_isNone_non, v_isNone_bl, v_isNone_int, v_isNone_str, v_isNone_tup, v_isNone_lst, List.map_cons, List.map_nil, List.length_cons, List.length_nil, List.cons_append, List.nil_append, List.replicate_succ, List.replicate_zero, List.getElem?_cons_zero, List.getElem?_cons_succ, List.set_cons_zero, List.set_cons_succ, Option.map_some, Nat.reduceSub, Nat.reduceAdd, Nat.reduceLT, Nat.reduceLeDiff, bigN, e_check_ratio h0, e_parts_by hd, v_cnl, h]
  rfl
theorem e_told1 {n d : Nat} (h0 : 0 < d) (hd : d < 2 ^ 60) : F_law_told [.int 1, .tup [dI n, dI d]] = .ok (.fr (.lst (pd (parts n d)))) := by
  have e0 : ((1 : Int) == 0) = false := rfl
  have a0 : ∀ x y : D, L2.atI [x, y] 0 = some x := fun _ _ => rfl
  unfold F_law_told M_law_told
  simp only [v_bok, v_berr, v_sok, v_serr, v_nx, v_rt, v_bk, v_ct, v_er, v_ofs, v_var, v_slot_dat, v_slot_own, v_c, v_bin, v_kbin, v_op2, v_pk2, v_un, v_op1, v_pk1, v_peek_dat, v_peek_fr, v_peek_slot, v_pslot_own, v_pslot_dat, v_cnl, v_test, v_ktest, v_andT, v_kand1, v_kand0, v_orT, v_kor1, v_kor0, v_notT, v_knotT, v_and, v_kAnd1, v_kAnd0, v_or, v_kOr1, v_kOr0, v_not, v_knot, v_if, v_kif1, v_kif0, v_isNone, v_notNone, v_nil, v_cons, v_kcons, v_kcons2, v_fast, v_kfast, v_all0, v_all1, v_kall, v_kall2, v_force_dat, v_force_fr, v_force_slot, v_fslot_own, v_fslot_dat, v_tup, v_ktup, v_lst, v_klst, v_call, v_callF, v_at_ok, v_at_err, v_callB, v_vown, v_kcallB, v_vB, v_atB, v_meth, v_vM, v_methAt, v_vM2, v_vM3, v_append, v_pop, v_cb, v_kcb, v_pkL, v_peeks0, v_peeks1, v_cons22, v_isi, v_sl, v_ksl, v_ksl2, v_ksl3, v_slE_l, v_slE_t, v_slE_r, v_some, v_ksome, v_none, v_revSl, v_iter, v_it_l, v_it_r, v_it_t, v_rng1, v_rng2, v_lc, v_klc, v_klc2, v_yes, v_callV, v_vV, v_vV2, v_seq, v_skip, v_break, v_cont, v_raise, v_drop, v_kdrop, v_ret, v_ret_dat, v_ret_fr, v_ret_slot, v_rslot_own, v_rslot_dat, v_retN, v_ifS, v_kifS1, v_kifS0, v_set, v_put_dat, v_put_fr, v_put_slot, v_kput, v_asg, v_kasg, v_kasg2, v_tgN, v_tgNil, v_tgCons, v_ktg, v_tgT, v_par, v_kpar, v_kpar1, v_kpar2, v_kpar3, v_fix_dat, v_fix_fr, v_fix_slot, v_kfix, v_aug, v_aslot, v_kaug, v_kaug2, v_for, v_try, v_ktry_nx, v_ktry_rt, v_ktry_er, v_ktry2, v_ktry3, v_runF, v_endF_rt, v_endF_nx, v_endF_er, v_runB, v_endB_rt, v_endB_nx, v_add, v_sub, v_mul, v_mod, v_fdiv, v_neg, v_lt, v_cmp, v_eq, v_ne, v_absD, v_int1, v_len_l, v_len_t, v_len_r, v_list_l, v_list_t, v_rev_l, v_rev_r, v_ixt, v_ixl, v_ixr, v_kb_NoneType_bool, v_kb_NoneType_int, v_kb_NoneType_str, v_kb_NoneType_tuple, v_kb_NoneType_list, v_kb_NoneType_dict, v_kb_bool_bool, v_kb_bool_int, v_kb_bool_str, v_kb_bool_tuple, v_kb_bool_list, v_kb_bool_dict, v_kb_int_bool, v_kb_int_int, v_kb_int_str, v_kb_int_tuple, v_kb_int_list, v_kb_int_dict, v_kb_str_bool, v_kb_str_int, v_kb_str_str, v_kb_str_tuple, v_kb_str_list, v_kb_str_dict, v_kb_tuple_bool, v_kb_tuple_int, v_kb_tuple_str, v_kb_tuple_tuple, v_kb_tuple_list, v_kb_tuple_dict, v_kb_list_bool, v_kb_list_int, v_kb_list_str, v_kb_list_tuple, v_kb_list_list, v_kb_list_dict, v_kb_dict_bool, v_kb_dict_int, v_kb_dict_str, v_kb_dict_tuple, v_kb_dict_list, v_kb_dict_dict, v_isi_non, v_isi_bl, v_isi_int, v_isi_str, v_isi_tup, v_isi_lst, v_isi_dct, v_eq_bb, v_ne_bb, v_isNone_non, v_isNone_bl, v_isNone_int, v_isNone_str, v_isNone_tup, v_isNone_lst, List.map_cons, List.map_nil, List.length_cons, List.length_nil, List.cons_append, List.nil_append, List.replicate_succ, List.replicate_zero, List.getElem?_cons_zero, List.getElem?_cons_succ, List.set_cons_zero, List.set_cons_succ, Option.map_some, Nat.reduceSub, Nat.reduceAdd, Nat.reduceLT, Nat.reduceLeDiff, bigN, e0, Int.sub_self, a0, if_true, e_parts_of h0 hd]
theorem e_told2 {n d : Nat} (h0 : 0 < d) (hn : n < 2 ^ 60) (hd : d < 2 ^ 60) : F_law_told [.int 2, .tup [dI n, dI d]] = .ok (.fr (.lst (dTs (near n d)))) := by
  have e0 : ((2 : Int) == 0) = false := rfl
  have a0 : ∀ x y : D, L2.atI [x, y] 1 = some y := fun _ _ => rfl
  have e1 : (2 : Int) - 1 = 1 := rfl
  have e2 : (if (11 : Nat) = 10 then some (2, F_parts_of_ratio) else if (11 : Nat) = 11 then some (2, F_near_ratios) else none) = some (2, F_near_ratios) := rfl
  unfold F_law_told M_law_told
  have e3 : ¬ (11 : Nat) = 10 := by decide
  simp only [v_bok, v_berr, v_sok, v_serr, v_nx, v_rt, v_bk, v_ct, v_er, v_ofs, v_var, v_slot_dat, v_slot_own, v_c, v_bin, v_kbin, v_op2, v_pk2, v_un, v_op1, v_pk1, v_peek_dat, v_peek_fr, v_peek_slot, v_pslot_own, v_pslot_dat, v_cnl, v_test, v_ktest, v_andT, v_kand1, v_kand0, v_orT, v_kor1, v_kor0, v_notT, v_knotT, v_and, v_kAnd1, v_kAnd0, v_or, v_kOr1, v_kOr0, v_not, v_knot, v_if, v_kif1, v_kif0, v_isNone, v_notNone, v_nil, v_cons, v_kcons, v_kcons2, v_fast, v_kfast, v_all0, v_all1, v_kall, v_kall2, v_force_dat, v_force_fr, v_force_slot, v_fslot_own, v_fslot_dat, v_tup, v_ktup, v_lst, v_klst, v_call, v_callF, v_at_ok, v_at_err, v_callB, v_vown, v_kcallB, v_vB, v_atB, v_meth, v_vM, v_methAt, v_vM2, v_vM3, v_append, v_pop, v_cb, v_kcb, v_pkL, v_peeks0, v_peeks1, v_cons22, v_isi, v_sl, v_ksl, v_ksl2, v_ksl3, v_slE_l, v_slE_t, v_slE_r, v_some, v_ksome, v_none, v_revSl, v_iter, v_it_l, v_it_r, v_it_t, v_rng1, v_rng2, v_lc, v_klc, v_klc2, v_yes, v_callV, v_vV, v_vV2, v_seq, v_skip, v_break, v_cont, v_raise, v_drop, v_kdrop, v_ret, v_ret_dat, v_ret_fr, v_ret_slot, v_rslot_own, v_rslot_dat, v_retN, v_ifS, v_kifS1, v_kifS0, v_set, v_put_dat, v_put_fr, v_put_slot, v_kput, v_asg, v_kasg, v_kasg2, v_tgN, v_tgNil, v_tgCons, v_ktg, v_tgT, v_par, v_kpar, v_kpar1, v_kpar2, v_kpar3, v_fix_dat, v_fix_fr, v_fix_slot, v_kfix, v_aug, v_aslot, v_kaug, v_kaug2, v_for, v_try, v_ktry_nx, v_ktry_rt, v_ktry_er, v_ktry2, v_ktry3, v_runF, v_endF_rt, v_endF_nx, v_endF_er, v_runB, v_endB_rt, v_endB_nx, v_add, v_sub, v_mul, v_mod, v_fdiv, v_neg, v_lt, v_cmp, v_eq, v_ne, v_absD, v_int1, v_len_l, v_len_t, v_len_r, v_list_l, v_list_t, v_rev_l, v_rev_r, v_ixt, v_ixl, v_ixr, v_kb_NoneType_bool, v_kb_NoneType_int, v_kb_NoneType_str, v_kb_NoneType_tuple, v_kb_NoneType_list, v_kb_NoneType_dict, v_kb_bool_bool, v_kb_bool_int, v_kb_bool_str, v_kb_bool_tuple, v_kb_bool_list, v_kb_bool_dict, v_kb_int_bool, v_kb_int_int, v_kb_int_str, v_kb_int_tuple, v_kb_int_list, v_kb_int_dict, v_kb_str_bool, v_kb_str_int, v_kb_str_str, v_kb_str_tuple, v_kb_str_list, v_kb_str_dict, v_kb_tuple_bool, v_kb_tuple_int, v_kb_tuple_str, v_kb_tuple_tuple, v_kb_tuple_list, v_kb_tuple_dict, v_kb_list_bool, v_kb_list_int, v_kb_list_str, v_kb_list_tuple, v_kb_list_list, v_kb_list_dict, v_kb_dict_bool, v_kb_dict_int, v_kb_dict_str, v_kb_dict_tuple, v_kb_dict_list, v_kb_dict_dict, v_isi_non, v_isi_bl, v_isi_int, v_isi_str, v_isi_tup, v_isi_lst, v_isi_dct, v_eq_bb, v_ne_bb, v_isNone_non, v_isNone_bl, v_isNone_int, v_isNone_str, v_isNone_tup, v_isNone_lst, List.map_cons, List.map_nil, List.length_cons, List.length_nil, List.cons_append, List.nil_append, List.replicate_succ, List.replicate_zero, List.getElem?_cons_zero, List.getElem?_cons_succ, List.set_cons_zero, List.set_cons_succ, Option.map_some, Nat.reduceSub, Nat.reduceAdd, Nat.reduceLT, Nat.reduceLeDiff, bigN, e0, e1, a0, if_neg e3, if_true, e_near_ratios h0 hn hd]
end Lw

set_option maxHeartbeats 1000000
namespace Lw
open PySem DL
theorem share_loop : ∀ (b a : Nat) (x y : SV), 
    mWhile (mTest (mBin gtD (mVar 3) (mC (.int 0)))) (mPar 2 3 (mCons (mVar 3) (mCons (mBin modD (mCB int1D (mCons (mVar 2) mNil)) (mVar 3)) mNil))) [x, y, .dat (dI a), .dat (dI b)] = .nx [x, y, .dat (dI (Nat.gcd a b)), .dat (dI 0)] := by
  intro b
  induction b using Nat.strongRecOn with
  | ind b ih =>
    intro a x y
    rw [v_while]
    rcases Nat.eq_zero_or_pos b with z | z
    · subst z
      have e : decide ((0 : Int) < ((0 : Nat) : Int)) = false := rfl
      simp only [v_bok, v_berr, v_sok, v_serr, v_nx, v_rt, v_bk, v_ct, v_er, v_ofs, v_var, v_slot_dat, v_slot_own, v_c, v_bin, v_kbin, v_op2, v_pk2, v_un, v_op1, v_pk1, v_peek_dat, v_peek_fr, v_peek_slot, v_pslot_own, v_pslot_dat, v_cnl, v_test, v_ktest, v_andT, v_kand1, v_kand0, v_orT, v_kor1, v_kor0, v_notT, v_knotT, v_and, v_kAnd1, v_kAnd0, v_or, v_kOr1, v_kOr0, v_not, v_knot, v_if, v_kif1, v_kif0, v_isNone, v_notNone, v_nil, v_cons, v_kcons, v_kcons2, v_fast, v_kfast, v_all0, v_all1, v_kall, v_kall2, v_force_dat, v_force_fr, v_force_slot, v_fslot_own, v_fslot_dat, v_tup, v_ktup, v_lst, v_klst, v_call, v_callF, v_at_ok, v_at_err, v_callB, v_vown, v_kcallB, v_vB, v_atB, v_meth, v_vM, v_methAt, v_vM2, v_vM3, v_append, v_pop, v_cb, v_kcb, v_pkL, v_peeks0, v_peeks1, v_cons22, v_isi, v_sl, v_ksl, v_ksl2, v_ksl3, v_slE_l, v_slE_t, v_slE_r, v_some, v_ksome, v_none, v_revSl, v_iter, v_it_l, v_it_r, v_it_t, v_rng1, v_rng2, v_lc, v_klc, v_klc2, v_yes, v_callV, v_vV, v_vV2, v_seq, v_skip, v_break, v_cont, v_raise, v_drop, v_kdrop, v_ret, v_ret_dat, v_ret_fr, v_ret_slot, v_rslot_own, v_rslot_dat, v_retN, v_ifS, v_kifS1, v_kifS0, v_set, v_put_dat, v_put_fr, v_put_slot, v_kput, v_asg, v_kasg, v_kasg2, v_tgN, v_tgNil, v_tgCons, v_ktg, v_tgT, v_par, v_kpar, v_kpar1, v_kpar2, v_kpar3, v_fix_dat, v_fix_fr, v_fix_slot, v_kfix, v_aug, v_aslot, v_kaug, v_kaug2, v_for, v_try, v_ktry_nx, v_ktry_rt, v_ktry_er, v_ktry2, v_ktry3, v_runF, v_endF_rt, v_endF_nx, v_endF_er, v_runB, v_endB_rt, v_endB_nx, v_add, v_sub, v_mul, v_mod, v_fdiv, v_neg, v_lt, v_cmp, v_eq, v_ne, v_absD, v_int1, v_len_l, v_len_t, v_len_r, v_list_l, v_list_t, v_rev_l, v_rev_r, v_ixt, v_ixl, v_ixr, v_kb_NoneType_bool, v_kb_NoneType_int, v_kb_NoneType_str, v_kb_NoneType_tuple, v_kb_NoneType_list, v_kb_NoneType_dict, v_kb_bool_bool, v_kb_bool_int, v_kb_bool_str, v_kb_bool_tuple, v_kb_bool_list, v_kb_bool_dict, v_kb_int_bool, v_kb_int_int, v_kb_int_str, v_kb_int_tuple, v_kb_int_list, v_kb_int_dict, v_kb_str_bool, v_kb_str_int, v_kb_str_str, v_kb_str_tuple, v_kb_str_list, v_kb_str_dict, v_kb_tuple_bool, v_kb_tuple_int, v_kb_tuple_str, v_kb_tuple_tuple, v_kb_tuple_list, v_kb_tuple_dict, v_kb_list_bool, v_kb_list_int, v_kb_list_str, v_kb_list_tuple, v_kb_list_list, v_kb_list_dict, v_kb_dict_bool, v_kb_dict_int, v_kb_dict_str, v_kb_dict_tuple, v_kb_dict_list, v_kb_dict_dict, v_isi_non, v_isi_bl, v_isi_int, v_isi_str, v_isi_tup, v_isi_lst, v_isi_dct, v_eq_bb, v_ne_bb, v_isNone_non, v_isNone_bl, v_isNone_int, v_isNone_str, v_isNone_tup, v_isNone_lst, List.map_cons, List.map_nil, List.length_cons, List.length_nil, List.cons_append, List.nil_append, List.replicate_succ, List.replicate_zero, List.getElem?_cons_zero, List.getElem?_cons_succ, List.set_cons_zero, List.set_cons_succ, Option.map_some, Nat.reduceSub, Nat.reduceAdd, Nat.reduceLT, Nat.reduceLeDiff, bigN, e, v_kwh0, Nat.gcd_zero_right]
    · have e : decide ((0 : Int) < (b : Int)) = true := decide_eq_true (by omega)
      have e4 : ((a : Int) % (b : Int)) = ((a % b : Nat) : Int) := by simp
      simp only [v_bok, v_berr, v_sok, v_serr, v_nx, v_rt, v_bk, v_ct, v_er, v_ofs, v_var, v_slot_dat, v_slot_own, v_c, v_bin, v_kbin, v_op2, v_pk2, v_un, v_op1, v_pk1, v_peek_dat, v_peek_fr, v_peek_slot, v_pslot_own, v_pslot_dat, v_cnl, v_test, v_ktest, v_andT, v_kand1, v_kand0, v_orT, v_kor1, v_kor0, v_notT, v_knotT, v_and, v_kAnd1, v_kAnd0, v_or, v_kOr1, v_kOr0, v_not, v_knot, v_if, v_kif1, v_kif0, v_isNone, v_notNone, v_nil, v_cons, v_kcons, v_kcons2, v_fast, v_kfast, v_all0, v_all1, v_kall, v_kall2, v_force_dat, v_force_fr, v_force_slot, v_fslot_own, v_fslot_dat, v_tup, v_ktup, v_lst, v_klst, v_call, v_callF, v_at_ok, v_at_err, v_callB, v_vown, v_kcallB, v_vB, v_atB, v_meth, v_vM, v_methAt, v_vM2, v_vM3, v_append, v_pop, v_cb, v_kcb, v_pkL, v_peeks0, v_peeks1, v_cons22, v_isi, v_sl, v_ksl, v_ksl2, v_ksl3, v_slE_l, v_slE_t, v_slE_r, v_some, v_ksome, v_none, v_revSl, v_iter, v_it_l, v_it_r, v_it_t, v_rng1, v_rng2, v_lc, v_klc, v_klc2, v_yes, v_callV, v_vV, v_vV2, v_seq, v_skip, v_break, v_cont, v_raise, v_drop, v_kdrop, v_ret, v_ret_dat, v_ret_fr, v_ret_slot, v_rslot_own, v_rslot_dat, v_retN, v_ifS, v_kifS1, v_kifS0, v_set, v_put_dat, v_put_fr, v_put_slot, v_kput, v_asg, v_kasg, v_kasg2, v_tgN, v_tgNil, v_tgCons, v_ktg, v_tgT, v_par, v_kpar, v_kpar1, v_kpar2, v_kpar3, v_fix_dat, v_fix_fr, v_fix_slot, v_kfix, v_aug, v_aslot, v_kaug, v_kaug2, v_for, v_try, v_ktry_nx, v_ktry_rt, v_ktry_er, v_ktry2, v_ktry3, v_runF, v_endF_rt, v_endF_nx, v_endF_er, v_runB, v_endB_rt, v_endB_nx, v_add, v_sub, v_mul, v_mod, v_fdiv, v_neg, v_lt, v_cmp, v_eq, v_ne, v_absD, v_int1, v_len_l, v_len_t, v_len_r, v_list_l, v_list_t, v_rev_l, v_rev_r, v_ixt, v_ixl, v_ixr, v_kb_NoneType_bool, v_kb_NoneType_int, v_kb_NoneType_str, v_kb_NoneType_tuple, v_kb_NoneType_list, v_kb_NoneType_dict, v_kb_bool_bool, v_kb_bool_int, v_kb_bool_str, v_kb_bool_tuple, v_kb_bool_list, v_kb_bool_dict, v_kb_int_bool, v_kb_int_int, v_kb_int_str, v_kb_int_tuple, v_kb_int_list, v_kb_int_dict, v_kb_str_bool, v_kb_str_int, v_kb_str_str, v_kb_str_tuple, v_kb_str_list, v_kb_str_dict, v_kb_tuple_bool, v_kb_tuple_int, v_kb_tuple_str, v_kb_tuple_tuple, v_kb_tuple_list, v_kb_tuple_dict, v_kb_list_bool, v_kb_list_int, v_kb_list_str, v_kb_list_tuple, v_kb_list_list, v_kb_list_dict, v_kb_dict_bool, v_kb_dict_int, v_kb_dict_str, v_kb_dict_tuple, v_kb_dict_list, v_kb_dict_dict, v_isi_non, v_isi_bl, v_isi_int, v_isi_str, v_isi_tup, v_isi_lst, v_isi_dct, v_eq_bb, v_ne_bb, v_isNone_non, v_isNone_bl, v_isNone_int, v_isNone_str, v_isNone_tup, v_isNone_lst, List.map_cons, List.map_nil, List.length_cons, List.length_nil, List.cons_append, List.nil_append, List.replicate_succ, List.replicate_zero, List.getElem?_cons_zero, List.getElem?_cons_succ, List.set_cons_zero, List.set_cons_succ, Option.map_some, Nat.reduceSub, Nat.reduceAdd, Nat.reduceLT, Nat.reduceLeDiff, bigN, e, v_kwh1, v_mod (show (b : Int) ≠ 0 by omega), fm (show (0 : Int) ≤ b by omega), e4, v_kwh_nx]
      rw [ih (a % b) (Nat.mod_lt _ z) b x y]
      rw [show Nat.gcd a b = Nat.gcd b (a % b) by rw [Nat.gcd_comm a b, Nat.gcd_rec b a, Nat.gcd_comm]]
theorem e_share {n d : Nat} : F_law_share [dI n, dI d] = .ok (.dat (dI (Nat.gcd n d))) := by
  have h1 : (if (n : Int) < 0 then -(n : Int) else n) = n := if_neg (by omega)
  have h2 : (if (d : Int) < 0 then -(d : Int) else d) = d := if_neg (by omega)
  unfold F_law_share M_law_share
  simp only [v_bok, v_berr, v_sok, v_serr, v_nx, v_rt, v_bk, v_ct, v_er, v_ofs, v_var, v_slot_dat, v_slot_own, v_c, v_bin, v_kbin, v_op2, v_pk2, v_un, v_op1, v_pk1, v_peek_dat, v_peek_fr, v_peek_slot, v_pslot_own, v_pslot_dat, v_cnl, v_test, v_ktest, v_andT, v_kand1, v_kand0, v_orT, v_kor1, v_kor0, v_notT, v_knotT, v_and, v_kAnd1, v_kAnd0, v_or, v_kOr1, v_kOr0, v_not, v_knot, v_if, v_kif1, v_kif0, v_isNone, v_notNone, v_nil, v_cons, v_kcons, v_kcons2, v_fast, v_kfast, v_all0, v_all1, v_kall, v_kall2, v_force_dat, v_force_fr, v_force_slot, v_fslot_own, v_fslot_dat, v_tup, v_ktup, v_lst, v_klst, v_call, v_callF, v_at_ok, v_at_err, v_callB, v_vown, v_kcallB, v_vB, v_atB, v_meth, v_vM, v_methAt, v_vM2, v_vM3, v_append, v_pop, v_cb, v_kcb, v_pkL, v_peeks0, v_peeks1, v_cons22, v_isi, v_sl, v_ksl, v_ksl2, v_ksl3, v_slE_l, v_slE_t, v_slE_r, v_some, v_ksome, v_none, v_revSl, v_iter, v_it_l, v_it_r, v_it_t, v_rng1, v_rng2, v_lc, v_klc, v_klc2, v_yes, v_callV, v_vV, v_vV2, v_seq, v_skip, v_break, v_cont, v_raise, v_drop, v_kdrop, v_ret, v_ret_dat, v_ret_fr, v_ret_slot, v_rslot_own, v_rslot_dat, v_retN, v_ifS, v_kifS1, v_kifS0, v_set, v_put_dat, v_put_fr, v_put_slot, v_kput, v_asg, v_kasg, v_kasg2, v_tgN, v_tgNil, v_tgCons, v_ktg, v_tgT, v_par, v_kpar, v_kpar1, v_kpar2, v_kpar3, v_fix_dat, v_fix_fr, v_fix_slot, v_kfix, v_aug, v_aslot, v_kaug, v_kaug2, v_for, v_try, v_ktry_nx, v_ktry_rt, v_ktry_er, v_ktry2, v_ktry3, v_runF, v_endF_rt, v_endF_nx, v_endF_er, v_runB, v_endB_rt, v_endB_nx, v_add, v_sub, v_mul, v_mod, v_fdiv, v_neg, v_lt, v_cmp, v_eq, v_ne, v_absD, v_int1, v_len_l, v_len_t, v_len_r, v_list_l, v_list_t, v_rev_l, v_rev_r, v_ixt, v_ixl, v_ixr, v_kb_NoneType_bool, v_kb_NoneType_int, v_kb_NoneType_str, v_kb_NoneType_tuple, v_kb_NoneType_list, v_kb_NoneType_dict, v_kb_bool_bool, v_kb_bool_int, v_kb_bool_str, v_kb_bool_tuple, v_kb_bool_list, v_kb_bool_dict, v_kb_int_bool, v_kb_int_int, v_kb_int_str, v_kb_int_tuple, v_kb_int_list, v_kb_int_dict, v_kb_str_bool, v_kb_str_int, v_kb_str_str, v_kb_str_tuple, v_kb_str_list, v_kb_str_dict, v_kb_tuple_bool, v_kb_tuple_int, v_kb_tuple_str, v_kb_tuple_tuple, v_kb_tuple_list, v_kb_tuple_dict, v_kb_list_bool, v_kb_list_int, v_kb_list_str, v_kb_list_tuple, v_kb_list_list, v_kb_list_dict, v_kb_dict_bool, v_kb_dict_int, v_kb_dict_str, v_kb_dict_tuple, v_kb_dict_list, v_kb_dict_dict, v_isi_non, v_isi_bl, v_isi_int, v_isi_str, v_isi_tup, v_isi_lst, v_isi_dct, v_eq_bb, v_ne_bb, v_isNone_non, v_isNone_bl, v_isNone_int, v_isNone_str, v_isNone_tup, v_isNone_lst, List.map_cons, List.map_nil, List.length_cons, List.length_nil, List.cons_append, List.nil_append, List.replicate_succ, List.replicate_zero, List.getElem?_cons_zero, List.getElem?_cons_succ, List.set_cons_zero, List.set_cons_succ, Option.map_some, Nat.reduceSub, Nat.reduceAdd, Nat.reduceLT, Nat.reduceLeDiff, bigN, h1, h2, share_loop]
theorem put_loop {z : SV} : ∀ (r suf : List Nat) (x : SV), (∀ a ∈ r, a < 18446744073709551616) → ∃ c,
    forL (tgN 3) (mPar 1 2 (mCons (mBin addD (mBin mulD (mVar 3) (mVar 1)) (mVar 2)) (mCons (mVar 1) mNil))) (pd r) [z, .dat (dI (put suf).1), .dat (dI (put suf).2), x] = .nx [z, .dat (dI (put (r.reverse ++ suf)).1), .dat (dI (put (r.reverse ++ suf)).2), c]
  | [], suf, x, _ => ⟨x, by rw [show pd [] = [] from rfl, v_for0]; rfl⟩
  | a :: r, suf, x, h => by
    obtain ⟨c, ih⟩ := put_loop (z := z) r (a :: suf) (.dat (dI a)) fun b hb => h b (List.mem_cons_of_mem _ hb)
    refine ⟨c, ?_⟩
    have k1 : L2.CMul (a : Int) ((put suf).1 : Int) := c_ln (h a List.mem_cons_self)
    have e1 : (a : Int) * ((put suf).1 : Int) + ((put suf).2 : Int) = (((put (a :: suf)).1 : Nat) : Int) := by simp [put]
    have e2 : (put suf).1 = (put (a :: suf)).2 := rfl
    rw [show pd (a :: r) = dI a :: pd r from rfl, v_for1, v_tgN, v_kfor]
    simp only [v_bok, v_berr, v_sok, v_serr, v_nx, v_rt, v_bk, v_ct, v_er, v_ofs, v_var, v_slot_dat, v_slot_own, v_c, v_bin, v_kbin, v_op2, v_pk2, v_un, v_op1, v_pk1, v_peek_dat, v_peek_fr, v_peek_slot, v_pslot_own, v_pslot_dat, v_cnl, v_test, v_ktest, v_andT, v_kand1, v_kand0, v_orT, v_kor1, v_kor0, v_notT, v_knotT, v_and, v_kAnd1, v_kAnd0, v_or, v_kOr1, v_kOr0, v_not, v_knot, v_if, v_kif1, v_kif0, v_isNone, v_notNone, v_nil, v_cons, v_kcons, v_kcons2, v_fast, v_kfast, v_all0, v_all1, v_kall, v_kall2, v_force_dat, v_force_fr, v_force_slot, v_fslot_own, v_fslot_dat, v_tup, v_ktup, v_lst, v_klst, v_call, v_callF, v_at_ok, v_at_err, v_callB, v_vown, v_kcallB, v_vB, v_atB, v_meth, v_vM, v_methAt, v_vM2, v_vM3, v_append, v_pop, v_cb, v_kcb, v_pkL, v_peeks0, v_peeks1, v_cons22, v_isi, v_sl, v_ksl, v_ksl2, v_ksl3, v_slE_l, v_slE_t, v_slE_r, v_some, v_ksome, v_none, v_revSl, v_iter, v_it_l, v_it_r, v_it_t, v_rng1, v_rng2, v_lc, v_klc, v_klc2, v_yes, v_callV, v_vV, v_vV2, v_seq, v_skip, v_break, v_cont, v_raise, v_drop, v_kdrop, v_ret, v_ret_dat, v_ret_fr, v_ret_slot, v_rslot_own, v_rslot_dat, v_retN, v_ifS, v_kifS1, v_kifS0, v_set, v_put_dat, v_put_fr, v_put_slot, v_kput, v_asg, v_kasg, v_kasg2, v_tgN, v_tgNil, v_tgCons, v_ktg, v_tgT, v_par, v_kpar, v_kpar1, v_kpar2, v_kpar3, v_fix_dat, v_fix_fr, v_fix_slot, v_kfix, v_aug, v_aslot, v_kaug, v_kaug2, v_for, v_try, v_ktry_nx, v_ktry_rt, v_ktry_er, v_ktry2, v_ktry3, v_runF, v_endF_rt, v_endF_nx, v_endF_er, v_runB, v_endB_rt, v_endB_nx, v_add, v_sub, v_mul, v_mod, v_fdiv, v_neg, v_lt, v_cmp, v_eq, v_ne, v_absD, v_int1, v_len_l, v_len_t, v_len_r, v_list_l, v_list_t, v_rev_l, v_rev_r, v_ixt, v_ixl, v_ixr, v_kb_NoneType_bool, v_kb_NoneType_int, v_kb_NoneType_str, v_kb_NoneType_tuple, v_kb_NoneType_list, v_kb_NoneType_dict, v_kb_bool_bool, v_kb_bool_int, v_kb_bool_str, v_kb_bool_tuple, v_kb_bool_list, v_kb_bool_dict, v_kb_int_bool, v_kb_int_int, v_kb_int_str, v_kb_int_tuple, v_kb_int_list, v_kb_int_dict, v_kb_str_bool, v_kb_str_int, v_kb_str_str, v_kb_str_tuple, v_kb_str_list, v_kb_str_dict, v_kb_tuple_bool, v_kb_tuple_int, v_kb_tuple_str, v_kb_tuple_tuple, v_kb_tuple_list, v_kb_tuple_dict, v_kb_list_bool, v_kb_list_int, v_kb_list_str, v_kb_list_tuple, v_kb_list_list, v_kb_list_dict, v_kb_dict_bool, v_kb_dict_int, v_kb_dict_str, v_kb_dict_tuple, v_kb_dict_list, v_kb_dict_dict, v_isi_non, v_isi_bl, v_isi_int, v_isi_str, v_isi_tup, v_isi_lst, v_isi_dct, v_eq_bb, v_ne_bb, v_isNone_non, v_isNone_bl, v_isNone_int, v_isNone_str, v_isNone_tup, v_isNone_lst, List.map_cons, List.map_nil, List.length_cons, List.length_nil, List.cons_append, List.nil_append, List.replicate_succ, List.replicate_zero, List.getElem?_cons_zero, List.getElem?_cons_succ, List.set_cons_zero, List.set_cons_succ, Option.map_some, Nat.reduceSub, Nat.reduceAdd, Nat.reduceLT, Nat.reduceLeDiff, bigN, v_mul k1, e1, v_kfor_nx]
    rw [e2, ih]
    simp
theorem e_put {l : List Nat} (hn : l ≠ []) (hb : ∀ a ∈ l, a < 18446744073709551616) : F_law_put [.lst (pd l)] = .ok (.dat (dT (put l))) := by
  obtain ⟨l0, x, rfl⟩ : ∃ l0 x, l = l0 ++ [x] := ⟨l.dropLast, l.getLast hn, (List.dropLast_concat_getLast hn).symm⟩
  have ha : L2.atI (pd (l0 ++ [x])) (-1) = some (dI x) := by
    rw [show pd (l0 ++ [x]) = pd l0 ++ [dI x] by simp [pd]]
    exact L2.atI_last _ _
  have hc : cutD (pd (l0 ++ [x])) none (some (-1)) = pd l0 := by
    rw [show pd (l0 ++ [x]) = pd l0 ++ [dI x] by simp [pd]]
    exact cut_init _ _
  have hr : (pd l0).reverse = pd l0.reverse := by simp [pd]
  obtain ⟨c, hl⟩ := put_loop (z := .dat (.lst (pd (l0 ++ [x])))) l0.reverse [x] .emp fun a h => hb a (by simp at h; simp [h])
  have e1 : (put [x]).1 = x := by simp [put]
  have e2 : (put [x]).2 = 1 := rfl
  have hN : (-(1 : Int)) = -1 := rfl
  rw [e1, e2, List.reverse_reverse] at hl
  have hl2 : forL (tgN 3) (mPar 1 2 (mCons (mBin addD (mBin mulD (mVar 3) (mVar 1)) (mVar 2)) (mCons (mVar 1) mNil))) (pd l0.reverse) [.dat (.lst (pd (l0 ++ [x]))), .dat (.int x), .dat (.int 1), .emp] = _ := hl
  unfold F_law_put M_law_put
  simp only [v_bok, v_berr, v_sok, v_serr, v_nx, v_rt, v_bk, v_ct, v_er, v_ofs, v_var, v_slot_dat, v_slot_own, v_c, v_bin, v_kbin, v_op2, v_pk2, v_un, v_op1, v_pk1, v_peek_dat, v_peek_fr, v_peek_slot, v_pslot_own, v_pslot_dat, v_cnl, v_test, v_ktest, v_andT, v_kand1, v_kand0, v_orT, v_kor1, v_kor0, v_notT, v_knotT, v_and, v_kAnd1, v_kAnd0, v_or, v_kOr1, v_kOr0, v_not, v_knot, v_if, v_kif1, v_kif0, v_isNone, v_notNone, v_nil, v_cons, v_kcons, v_kcons2, v_fast, v_kfast, v_all0, v_all1, v_kall, v_kall2, v_force_dat, v_force_fr, v_force_slot, v_fslot_own, v_fslot_dat, v_tup, v_ktup, v_lst, v_klst, v_call, v_callF, v_at_ok, v_at_err, v_callB, v_vown, v_kcallB, v_vB, v_atB, v_meth, v_vM, v_methAt, v_vM2, v_vM3, v_append, v_pop, v_cb, v_kcb, v_pkL, v_peeks0, v_peeks1, v_cons22, v_isi, v_sl, v_ksl, v_ksl2, v_ksl3, v_slE_l, v_slE_t, v_slE_r, v_some, v_ksome, v_none, v_revSl, v_iter, v_it_l, v_it_r, v_it_t, v_rng1, v_rng2, v_lc, v_klc, v_klc2, v_yes, v_callV, v_vV, v_vV2, v_seq, v_skip, v_break, v_cont, v_raise, v_drop, v_kdrop, v_ret, v_ret_dat, v_ret_fr, v_ret_slot, v_rslot_own, v_rslot_dat, v_retN, v_ifS, v_kifS1, v_kifS0, v_set, v_put_dat, v_put_fr, v_put_slot, v_kput, v_asg, v_kasg, v_kasg2, v_tgN, v_tgNil, v_tgCons, v_ktg, v_tgT, v_par, v_kpar, v_kpar1, v_kpar2, v_kpar3, v_fix_dat, v_fix_fr, v_fix_slot, v_kfix, v_aug, v_aslot, v_kaug, v_kaug2, v_for, v_try, v_ktry_nx, v_ktry_rt, v_ktry_er, v_ktry2, v_ktry3, v_runF, v_endF_rt, v_endF_nx, v_endF_er, v_runB, v_endB_rt, v_endB_nx, v_add, v_sub, v_mul, v_mod, v_fdiv, v_neg, v_lt, v_cmp, v_eq, v_ne, v_absD, v_int1, v_len_l, v_len_t, v_len_r, v_list_l, v_list_t, v_rev_l, v_rev_r, v_ixt, v_ixl, v_ixr, v_kb_NoneType_bool, v_kb_NoneType_int, v_kb_NoneType_str, v_kb_NoneType_tuple, v_kb_NoneType_list, v_kb_NoneType_dict, v_kb_bool_bool, v_kb_bool_int, v_kb_bool_str, v_kb_bool_tuple, v_kb_bool_list, v_kb_bool_dict, v_kb_int_bool, v_kb_int_int, v_kb_int_str, v_kb_int_tuple, v_kb_int_list, v_kb_int_dict, v_kb_str_bool, v_kb_str_int, v_kb_str_str, v_kb_str_tuple, v_kb_str_list, v_kb_str_dict, v_kb_tuple_bool, v_kb_tuple_int, v_kb_tuple_str, v_kb_tuple_tuple, v_kb_tuple_list, v_kb_tuple_dict, v_kb_list_bool, v_kb_list_int, v_kb_list_str, v_kb_list_tuple, v_kb_list_list, v_kb_list_dict, v_kb_dict_bool, v_kb_dict_int, v_kb_dict_str, v_kb_dict_tuple, v_kb_dict_list, v_kb_dict_dict, v_isi_non, v_isi_bl, v_isi_int, v_isi_str, v_isi_tup, v_isi_lst, v_isi_dct, v_eq_bb, v_ne_bb, v_isNone_non, v_isNone_bl, v_isNone_int, v_isNone_str, v_isNone_tup, v_isNone_lst, List.map_cons, List.map_nil, List.length_cons, List.length_nil, List.cons_append, List.nil_append, List.replicate_succ, List.replicate_zero, List.getElem?_cons_zero, List.getElem?_cons_succ, List.set_cons_zero, List.set_cons_succ, Option.map_some, Nat.reduceSub, Nat.reduceAdd, Nat.reduceLT, Nat.reduceLeDiff, bigN, hN, ha, hc, rslD, hr, hl2]
  rfl
theorem absN (k : Int) : (if k < 0 then -k else k) = ((k.natAbs : Nat) : Int) := by omega
theorem e_nearer {n d p q s : Nat} {r : Int} (hd : d < 18446744073709551616) (hq : q < 18446744073709551616) (hs : s < 18446744073709551616) : F_law_is_nearer [dI n, dI d, .tup [dI p, dI q], .tup [.int r, dI s]] =
    .ok (.dat (.bl (decide (((((p : Int) * d - n * q).natAbs : Nat) : Int) * s < (((r * d - n * s).natAbs : Nat) : Int) * q)))) := by
  unfold F_law_is_nearer M_law_is_nearer
  have k1 : ∀ i, L2.CMul i (d : Int) := fun i => c_rn hd
  have k2 : ∀ i, L2.CMul i (q : Int) := fun i => c_rn hq
  have k3 : ∀ i, L2.CMul i (s : Int) := fun i => c_rn hs
  simp only [v_bok, v_berr, v_sok, v_serr, v_nx, v_rt, v_bk, v_ct, v_er, v_ofs, v_var, v_slot_dat, v_slot_own, v_c, v_bin, v_kbin, v_op2, v_pk2, v_un, v_op1, v_pk1, v_peek_dat, v_peek_fr, v_peek_slot, v_pslot_own, v_pslot_dat, v_cnl, v_test, v_ktest, v_andT, v_kand1, v_kand0, v_orT, v_kor1, v_kor0, v_notT, v_knotT, v_and, v_kAnd1, v_kAnd0, v_or, v_kOr1, v_kOr0, v_not, v_knot, v_if, v_kif1, v_kif0, v_isNone, v_notNone, v_nil, v_cons, v_kcons, v_kcons2, v_fast, v_kfast, v_all0, v_all1, v_kall, v_kall2, v_force_dat, v_force_fr, v_force_slot, v_fslot_own, v_fslot_dat, v_tup, v_ktup, v_lst, v_klst, v_call, v_callF, v_at_ok, v_at_err, v_callB, v_vown, v_kcallB, v_vB, v_atB, v_meth, v_vM, v_methAt, v_vM2, v_vM3, v_append, v_pop, v_cb, v_kcb, v_pkL, v_peeks0, v_peeks1, v_cons22, v_isi, v_sl, v_ksl, v_ksl2, v_ksl3, v_slE_l, v_slE_t, v_slE_r, v_some, v_ksome, v_none, v_revSl, v_iter, v_it_l, v_it_r, v_it_t, v_rng1, v_rng2, v_lc, v_klc, v_klc2, v_yes, v_callV, v_vV, v_vV2, v_seq, v_skip, v_break, v_cont, v_raise, v_drop, v_kdrop, v_ret, v_ret_dat, v_ret_fr, v_ret_slot, v_rslot_own, v_rslot_dat, v_retN, v_ifS, v_kifS1, v_kifS0, v_set, v_put_dat, v_put_fr, v_put_slot, v_kput, v_asg, v_kasg, v_kasg2, v_tgN, v_tgNil, v_tgCons, v_ktg, v_tgT, v_par, v_kpar, v_kpar1, v_kpar2, v_kpar3, v_fix_dat, v_fix_fr, v_fix_slot, v_kfix, v_aug, v_aslot, v_kaug, v_kaug2, v_for, v_try, v_ktry_nx, v_ktry_rt, v_ktry_er, v_ktry2, v_ktry3, v_runF, v_endF_rt, v_endF_nx, v_endF_er, v_runB, v_endB_rt, v_endB_nx, v_add, v_sub, v_mul, v_mod, v_fdiv, v_neg, v_lt, v_cmp, v_eq, v_ne, v_absD, v_int1, v_len_l, v_len_t, v_len_r, v_list_l, v_list_t, v_rev_l, v_rev_r, v_ixt, v_ixl, v_ixr, v_kb_NoneType_bool, v_kb_NoneType_int, v_kb_NoneType_str, v_kb_NoneType_tuple, v_kb_NoneType_list, v_kb_NoneType_dict, v_kb_bool_bool, v_kb_bool_int, v_kb_bool_str, v_kb_bool_tuple, v_kb_bool_list, v_kb_bool_dict, v_kb_int_bool, v_kb_int_int, v_kb_int_str, v_kb_int_tuple, v_kb_int_list, v_kb_int_dict, v_kb_str_bool, v_kb_str_int, v_kb_str_str, v_kb_str_tuple, v_kb_str_list, v_kb_str_dict, v_kb_tuple_bool, v_kb_tuple_int, v_kb_tuple_str, v_kb_tuple_tuple, v_kb_tuple_list, v_kb_tuple_dict, v_kb_list_bool, v_kb_list_int, v_kb_list_str, v_kb_list_tuple, v_kb_list_list, v_kb_list_dict, v_kb_dict_bool, v_kb_dict_int, v_kb_dict_str, v_kb_dict_tuple, v_kb_dict_list, v_kb_dict_dict, v_isi_non, v_isi_bl, v_isi_int, v_isi_str, v_isi_tup, v_isi_lst, v_isi_dct, v_eq_bb, v_ne_bb, v_isNone_non, v_isNone_bl, v_isNone_int, v_isNone_str, v_isNone_tup, v_isNone_lst, List.map_cons, List.map_nil, List.length_cons, List.length_nil, List.cons_append, List.nil_append, List.replicate_succ, List.replicate_zero, List.getElem?_cons_zero, List.getElem?_cons_succ, List.set_cons_zero, List.set_cons_succ, Option.map_some, Nat.reduceSub, Nat.reduceAdd, Nat.reduceLT, Nat.reduceLeDiff, bigN, v_mul (k1 _), v_mul (k2 _), v_mul (k3 _), absN]
end Lw

set_option maxHeartbeats 1000000
namespace Lw
open PySem DL
def dS (c : Cn) (n d g : Nat) (l : List Nat) (nr : List (Nat × Nat)) (x6 x7 x8 x9 x10 x11 x12 : SV) : DS := [.own c, .dat (dI n), .dat (dI d), .dat (.lst (pd l)), .dat (.lst (dTs nr)), .dat (dI g), x6, x7, x8, x9, x10, x11, x12]
theorem e60 : (2 : Nat) ^ 60 = 1152921504606846976 := rfl
theorem near_at {n d : Nat} {k : Nat} {x : Nat × Nat} (h : (near n d)[k]? = some x) : ∃ (y : Nat × Nat) (D1 D2 : Nat) (s' : Int), At n d D1 D2 x y s' ∧ D2 < D1 ∧ (((1, 0) : Nat × Nat) :: near n d)[k]? = some y :=
  go_all d n (1, 0) (0, 1) 1 (at_start n d) k x h
theorem near_le {n d : Nat} {x : Nat × Nat} (h : x ∈ near n d) : x.1 ≤ n ∧ x.2 ≤ d := by
  obtain ⟨k, hk⟩ := List.getElem?_of_mem h
  obtain ⟨y, D1, D2, s, hA, hD, _⟩ := near_at hk
  exact hA.le (by omega)
section
variable {c : Cn} {n d g : Nat} {l : List Nat} {nr : List (Nat × Nat)} {x6 x7 x8 x9 x10 x11 x12 : SV}
theorem d_odd (hl : l.length ≤ 1000) : compL [11] (tgN 11) (mOrT (mTest (mIsi "bool" (mVar 11))) (mNotT (mTest (mIsi "int" (mVar 11))))) (mVar 11) (pd l) [] (dS c n d g l nr x6 x7 x8 x9 x10 x11 x12) = .ok [] (dS c n d g l nr x6 x7 x8 x9 x10 x11 x12) := by
  have := comp_map (vs := [11]) (mt := tgN 11) (mc := mOrT (mTest (mIsi "bool" (mVar 11))) (mNotT (mTest (mIsi "int" (mVar 11))))) (me := mVar 11) (τ := dS c n d g l nr x6 x7 x8 x9 x10 x11 x12) (fun _ => false) (fun x => x) (xs := pd l) (fun x hx => by
    obtain ⟨a, _, rfl⟩ := List.mem_map.mp hx
    refine ⟨dS c n d g l nr x6 x7 x8 x9 x10 (.dat (dI a)) x12, dS c n d g l nr x6 x7 x8 x9 x10 (.dat (dI a)) x12, rfl, ?_, fun _ => rfl, fun z => Bool.noConfusion z⟩
    simp only [v_bok, v_berr, v_sok, v_serr, v_nx, v_rt, v_bk, v_ct, v_er, v_ofs, v_var, v_slot_dat, v_slot_own, v_c, v_bin, v_kbin, v_op2, v_pk2, v_un, v_op1, v_pk1, v_peek_dat, v_peek_fr, v_peek_slot, v_pslot_own, v_pslot_dat, v_cnl, v_test, v_ktest, v_andT, v_kand1, v_kand0, v_orT, v_kor1, v_kor0, v_notT, v_knotT, v_and, v_kAnd1, v_kAnd0, v_or, v_kOr1, v_kOr0, v_not, v_knot, v_if, v_kif1, v_kif0, v_isNone, v_notNone, v_nil, v_cons, v_kcons, v_kcons2, v_fast, v_kfast, v_all0, v_all1, v_kall, v_kall2, v_force_dat, v_force_fr, v_force_slot, v_fslot_own, v_fslot_dat, v_tup, v_ktup, v_lst, v_klst, v_call, v_callF, v_at_ok, v_at_err, v_callB, v_vown, v_kcallB, v_vB, v_atB, v_meth, v_vM, v_methAt, v_vM2, v_vM3, v_append, v_pop, v_cb, v_kcb, v_pkL, v_peeks0, v_peeks1, v_cons22, v_isi, v_sl, v_ksl, v_ksl2, v_ksl3, v_slE_l, v_slE_t, v_slE_r, v_some, v_ksome, v_none, v_revSl, v_iter, v_it_l, v_it_r, v_it_t, v_rng1, v_rng2, v_lc, v_klc, v_klc2, v_yes, v_callV, v_vV, v_vV2, v_seq, v_skip, v_break, v_cont, v_raise, v_drop, v_kdrop, v_ret, v_ret_dat, v_ret_fr, v_ret_slot, v_rslot_own, v_rslot_dat, v_retN, v_ifS, v_kifS1, v_kifS0, v_set, v_put_dat, v_put_fr, v_put_slot, v_kput, v_asg, v_kasg, v_kasg2, v_tgN, v_tgNil, v_tgCons, v_ktg, v_tgT, v_par, v_kpar, v_kpar1, v_kpar2, v_kpar3, v_fix_dat, v_fix_fr, v_fix_slot, v_kfix, v_aug, v_aslot, v_kaug, v_kaug2, v_for, v_try, v_ktry_nx, v_ktry_rt, v_ktry_er, v_ktry2, v_ktry3, v_runF, v_endF_rt, v_endF_nx, v_endF_er, v_runB, v_endB_rt, v_endB_nx, v_add, v_sub, v_mul, v_mod, v_fdiv, v_neg, v_lt, v_cmp, v_eq, v_ne, v_absD, v_int1, v_len_l, v_len_t, v_len_r, v_list_l, v_list_t, v_rev_l, v_rev_r, v_ixt, v_ixl, v_ixr, v_kb_NoneType_bool, v_kb_NoneType_int, v_kb_NoneType_str, v_kb_NoneType_tuple, v_kb_NoneType_list, v_kb_NoneType_dict, v_kb_bool_bool, v_kb_bool_int, v_kb_bool_str, v_kb_bool_tuple, v_kb_bool_list, v_kb_bool_dict, v_kb_int_bool, v_kb_int_int, v_kb_int_str, v_kb_int_tuple, v_kb_int_list, v_kb_int_dict, v_kb_str_bool, v_kb_str_int, v_kb_str_str, v_kb_str_tuple, v_kb_str_list, v_kb_str_dict, v_kb_tuple_bool, v_kb_tuple_int, v_kb_tuple_str, v_kb_tuple_tuple, v_kb_tuple_list, v_kb_tuple_dict, v_kb_list_bool, v_kb_list_int, v_kb_list_str, v_kb_list_tuple, v_kb_list_list, v_kb_list_dict, v_kb_dict_bool, v_kb_dict_int, v_kb_dict_str, v_kb_dict_tuple, v_kb_dict_list, v_kb_dict_dict, v_isi_non, v_isi_bl, v_isi_int, v_isi_str, v_isi_tup, v_isi_lst, v_isi_dct, v_eq_bb, v_ne_bb, v_isNone_non, v_isNone_bl, v_isNone_int, v_isNone_str, v_isNone_tup, v_isNone_lst, List.map_cons, List.map_nil, List.length_cons, List.length_nil, List.cons_append, List.nil_append, List.replicate_succ, List.replicate_zero, List.getElem?_cons_zero, List.getElem?_cons_succ, List.set_cons_zero, List.set_cons_succ, Option.map_some, Nat.reduceSub, Nat.reduceAdd, Nat.reduceLT, Nat.reduceLeDiff, bigN, dS, Bool.not_true]) [] (by unfold pd bigN; simp; omega)
  rw [this]
  simp
theorem d_low (hl : l.length ≤ 1000) (h1 : ∀ a ∈ l.drop 1, 1 ≤ a) : compL [11] (tgN 11) (mTest (mBin ltD (mVar 11) (mC (.int 1)))) (mVar 11) (pd (l.drop 1)) [] (dS c n d g l nr x6 x7 x8 x9 x10 x11 x12) = .ok [] (dS c n d g l nr x6 x7 x8 x9 x10 x11 x12) := by
  have := comp_map (vs := [11]) (mt := tgN 11) (mc := mTest (mBin ltD (mVar 11) (mC (.int 1)))) (me := mVar 11) (τ := dS c n d g l nr x6 x7 x8 x9 x10 x11 x12) (fun _ => false) (fun x => x) (xs := pd (l.drop 1)) (fun x hx => by
    obtain ⟨a, ha, rfl⟩ := List.mem_map.mp hx
    have := h1 a ha
    refine ⟨dS c n d g l nr x6 x7 x8 x9 x10 (.dat (dI a)) x12, dS c n d g l nr x6 x7 x8 x9 x10 (.dat (dI a)) x12, rfl, ?_, fun _ => rfl, fun z => Bool.noConfusion z⟩
    simp only [v_bok, v_berr, v_sok, v_serr, v_nx, v_rt, v_bk, v_ct, v_er, v_ofs, v_var, v_slot_dat, v_slot_own, v_c, v_bin, v_kbin, v_op2, v_pk2, v_un, v_op1, v_pk1, v_peek_dat, v_peek_fr, v_peek_slot, v_pslot_own, v_pslot_dat, v_cnl, v_test, v_ktest, v_andT, v_kand1, v_kand0, v_orT, v_kor1, v_kor0, v_notT, v_knotT, v_and, v_kAnd1, v_kAnd0, v_or, v_kOr1, v_kOr0, v_not, v_knot, v_if, v_kif1, v_kif0, v_isNone, v_notNone, v_nil, v_cons, v_kcons, v_kcons2, v_fast, v_kfast, v_all0, v_all1, v_kall, v_kall2, v_force_dat, v_force_fr, v_force_slot, v_fslot_own, v_fslot_dat, v_tup, v_ktup, v_lst, v_klst, v_call, v_callF, v_at_ok, v_at_err, v_callB, v_vown, v_kcallB, v_vB, v_atB, v_meth, v_vM, v_methAt, v_vM2, v_vM3, v_append, v_pop, v_cb, v_kcb, v_pkL, v_peeks0, v_peeks1, v_cons22, v_isi, v_sl, v_ksl, v_ksl2, v_ksl3, v_slE_l, v_slE_t, v_slE_r, v_some, v_ksome, v_none, v_revSl, v_iter, v_it_l, v_it_r, v_it_t, v_rng1, v_rng2, v_lc, v_klc, v_klc2, v_yes, v_callV, v_vV, v_vV2, v_seq, v_skip, v_break, v_cont, v_raise, v_drop, v_kdrop, v_ret, v_ret_dat, v_ret_fr, v_ret_slot, v_rslot_own, v_rslot_dat, v_retN, v_ifS, v_kifS1, v_kifS0, v_set, v_put_dat, v_put_fr, v_put_slot, v_kput, v_asg, v_kasg, v_kasg2, v_tgN, v_tgNil, v_tgCons, v_ktg, v_tgT, v_par, v_kpar, v_kpar1, v_kpar2, v_kpar3, v_fix_dat, v_fix_fr, v_fix_slot, v_kfix, v_aug, v_aslot, v_kaug, v_kaug2, v_for, v_try, v_ktry_nx, v_ktry_rt, v_ktry_er, v_ktry2, v_ktry3, v_runF, v_endF_rt, v_endF_nx, v_endF_er, v_runB, v_endB_rt, v_endB_nx, v_add, v_sub, v_mul, v_mod, v_fdiv, v_neg, v_lt, v_cmp, v_eq, v_ne, v_absD, v_int1, v_len_l, v_len_t, v_len_r, v_list_l, v_list_t, v_rev_l, v_rev_r, v_ixt, v_ixl, v_ixr, v_kb_NoneType_bool, v_kb_NoneType_int, v_kb_NoneType_str, v_kb_NoneType_tuple, v_kb_NoneType_list, v_kb_NoneType_dict, v_kb_bool_bool, v_kb_bool_int, v_kb_bool_str, v_kb_bool_tuple, v_kb_bool_list, v_kb_bool_dict, v_kb_int_bool, v_kb_int_int, v_kb_int_str, v_kb_int_tuple, v_kb_int_list, v_kb_int_dict, v_kb_str_bool, v_kb_str_int, v_kb_str_str, v_kb_str_tuple, v_kb_str_list, v_kb_str_dict, v_kb_tuple_bool, v_kb_tuple_int, v_kb_tuple_str, v_kb_tuple_tuple, v_kb_tuple_list, v_kb_tuple_dict, v_kb_list_bool, v_kb_list_int, v_kb_list_str, v_kb_list_tuple, v_kb_list_list, v_kb_list_dict, v_kb_dict_bool, v_kb_dict_int, v_kb_dict_str, v_kb_dict_tuple, v_kb_dict_list, v_kb_dict_dict, v_isi_non, v_isi_bl, v_isi_int, v_isi_str, v_isi_tup, v_isi_lst, v_isi_dct, v_eq_bb, v_ne_bb, v_isNone_non, v_isNone_bl, v_isNone_int, v_isNone_str, v_isNone_tup, v_isNone_lst, List.map_cons, List.map_nil, List.length_cons, List.length_nil, List.cons_append, List.nil_append, List.replicate_succ, List.replicate_zero, List.getElem?_cons_zero, List.getElem?_cons_succ, List.set_cons_zero, List.set_cons_succ, Option.map_some, Nat.reduceSub, Nat.reduceAdd, Nat.reduceLT, Nat.reduceLeDiff, bigN, dS, decide_eq_false (show ¬ (a : Int) < 1 by omega)]) [] (by unfold pd bigN; simp; omega)
  rw [this]
  simp
theorem d_puts (hl : l.length ≤ 1000) (hb : ∀ a ∈ l, a < 18446744073709551616) : compL [6] (tgN 6) mYes (mCall 1 F_law_put (mCons (mSl (mVar 3) mNone (mSome (mBin addD (mVar 6) (mC (.int 1))))) mNil)) (iRow 0 (l.length : Int).toNat) [] (dS c n d g l nr x6 x7 x8 x9 x10 x11 x12) =
    .ok ((iRow 0 (l.length : Int).toNat).map fun x => match x with | .int i => dT (put (l.take (i.toNat + 1))) | _ => .non) (dS c n d g l nr x6 x7 x8 x9 x10 x11 x12) := by
  refine comp_all _ (fun x hx => ?_) (by rw [iRow_len]; show _ ≤ 1000000; omega)
  obtain ⟨i, hi, rfl⟩ := iRow_mem hx
  rw [Int.zero_add]
  have hi2 : i < l.length := by omega
  have he : l.take (i + 1) ≠ [] := by
    intro z
    rcases List.take_eq_nil_iff.mp z with y | y
    · omega
    · rw [y] at hi2; exact Nat.not_lt_zero _ hi2
  have hp := e_put (l := l.take (i + 1)) he fun a ha => hb a (List.mem_of_mem_take ha)
  have hc : cutD (pd l) none (some ((i : Int) + 1)) = pd (l.take (i + 1)) := by
    rw [show ((i : Int) + 1) = ((i + 1 : Nat) : Int) by push_cast; rfl, cut_head]
    simp [pd, List.map_take]
  refine ⟨dS c n d g l nr (.dat (.int i)) x7 x8 x9 x10 x11 x12, dS c n d g l nr (.dat (.int i)) x7 x8 x9 x10 x11 x12, .dat (dT (put (l.take (i + 1)))), dS c n d g l nr (.dat (.int i)) x7 x8 x9 x10 x11 x12, dS c n d g l nr (.dat (.int i)) x7 x8 x9 x10 x11 x12, rfl, rfl, ?_, rfl, rfl⟩
  simp only [v_bok, v_berr, v_sok, v_serr, v_nx, v_rt, v_bk, v_ct, v_er, v_ofs, v_var, v_slot_dat, v_slot_own, v_c, v_bin, v_kbin, v_op2, v_pk2, v_un, v_op1, v_pk1, v_peek_dat, v_peek_fr, v_peek_slot, v_pslot_own, v_pslot_dat, v_cnl, v_test, v_ktest, v_andT, v_kand1, v_kand0, v_orT, v_kor1, v_kor0, v_notT, v_knotT, v_and, v_kAnd1, v_kAnd0, v_or, v_kOr1, v_kOr0, v_not, v_knot, v_if, v_kif1, v_kif0, v_isNone, v_notNone, v_nil, v_cons, v_kcons, v_kcons2, v_fast, v_kfast, v_all0, v_all1, v_kall, v_kall2, v_force_dat, v_force_fr, v_force_slot, v_fslot_own, v_fslot_dat, v_tup, v_ktup, v_lst, v_klst, v_call, v_callF, v_at_ok, v_at_err, v_callB, v_vown, v_kcallB, v_vB, v_atB, v_meth, v_vM, v_methAt, v_vM2, v_vM3, v_append, v_pop, v_cb, v_kcb, v_pkL, v_peeks0, v_peeks1, v_cons22, v_isi, v_sl, v_ksl, v_ksl2, v_ksl3, v_slE_l, v_slE_t, v_slE_r, v_some, v_ksome, v_none, v_revSl, v_iter, v_it_l, v_it_r, v_it_t, v_rng1, v_rng2, v_lc, v_klc, v_klc2, v_yes, v_callV, v_vV, v_vV2, v_seq, v_skip, v_break, v_cont, v_raise, v_drop, v_kdrop, v_ret, v_ret_dat, v_ret_fr, v_ret_slot, v_rslot_own, v_rslot_dat, v_retN, v_ifS, v_kifS1, v_kifS0, v_set, v_put_dat, v_put_fr, v_put_slot, v_kput, v_asg, v_kasg, v_kasg2, v_tgN, v_tgNil, v_tgCons, v_ktg, v_tgT, v_par, v_kpar, v_kpar1, v_kpar2, v_kpar3, v_fix_dat, v_fix_fr, v_fix_slot, v_kfix, v_aug, v_aslot, v_kaug, v_kaug2, v_for, v_try, v_ktry_nx, v_ktry_rt, v_ktry_er, v_ktry2, v_ktry3, v_runF, v_endF_rt, v_endF_nx, v_endF_er, v_runB, v_endB_rt, v_endB_nx, v_add, v_sub, v_mul, v_mod, v_fdiv, v_neg, v_lt, v_cmp, v_eq, v_ne, v_absD, v_int1, v_len_l, v_len_t, v_len_r, v_list_l, v_list_t, v_rev_l, v_rev_r, v_ixt, v_ixl, v_ixr, v_kb_NoneType_bool, v_kb_NoneType_int, v_kb_NoneType_str, v_kb_NoneType_tuple, v_kb_NoneType_list, v_kb_NoneType_dict, v_kb_bool_bool, v_kb_bool_int, v_kb_bool_str, v_kb_bool_tuple, v_kb_bool_list, v_kb_bool_dict, v_kb_int_bool, v_kb_int_int, v_kb_int_str, v_kb_int_tuple, v_kb_int_list, v_kb_int_dict, v_kb_str_bool, v_kb_str_int, v_kb_str_str, v_kb_str_tuple, v_kb_str_list, v_kb_str_dict, v_kb_tuple_bool, v_kb_tuple_int, v_kb_tuple_str, v_kb_tuple_tuple, v_kb_tuple_list, v_kb_tuple_dict, v_kb_list_bool, v_kb_list_int, v_kb_list_str, v_kb_list_tuple, v_kb_list_list, v_kb_list_dict, v_kb_dict_bool, v_kb_dict_int, v_kb_dict_str, v_kb_dict_tuple, v_kb_dict_list, v_kb_dict_dict, v_isi_non, v_isi_bl, v_isi_int, v_isi_str, v_isi_tup, v_isi_lst, v_isi_dct, v_eq_bb, v_ne_bb, v_isNone_non, v_isNone_bl, v_isNone_int, v_isNone_str, v_isNone_tup, v_isNone_lst, List.map_cons, List.map_nil, List.length_cons, List.length_nil, List.cons_append, List.nil_append, List.replicate_succ, List.replicate_zero, List.getElem?_cons_zero, List.getElem?_cons_succ, List.set_cons_zero, List.set_cons_succ, Option.map_some, Nat.reduceSub, Nat.reduceAdd, Nat.reduceLT, Nat.reduceLeDiff, bigN, dS, hc, hp]
theorem puts_near (hd : 0 < d) : ((iRow 0 ((parts n d).length : Int).toNat).map fun x => match x with | .int i => dT (put ((parts n d).take (i.toNat + 1))) | _ => .non) = dTs (near n d) := by
  apply List.ext_getElem?
  intro k
  rcases Nat.lt_or_ge k (parts n d).length with h | h
  · have e1 : (iRow 0 ((parts n d).length : Int).toNat)[k]? = some (.int ((0 : Int) + k)) := iRow_get.mpr ⟨by omega, rfl⟩
    have e2 := go_get (parts n d) (1, 0) (0, 1) k h
    rw [List.getElem?_map, e1, dTs, List.getElem?_map, near, e2]
    have e3 : ((0 : Int) + k).toNat = k := by omega
    show some (dT (put ((parts n d).take (((0 : Int) + k).toNat + 1)))) = some (dT (lin (1, 0) (0, 1) (put ((parts n d).take (k + 1)))))
    rw [e3]
    congr 2
    exact Prod.ext (by simp [lin]) (by simp [lin])
  · rw [List.getElem?_eq_none (by rw [List.length_map, iRow_len]; omega), List.getElem?_eq_none (by rw [dTs, List.length_map, near, go_len]; exact h)]
theorem d_det (hn : n < 2 ^ 60) (hd : d < 2 ^ 60) (hl : (near n d).length ≤ 1000) : ∃ y6, forL (tgN 6) (mIfS (mTest (mBin neD (mCB absD (mCons (mBin subD (mBin mulD (mBin ixD (mBin ixD (mVar 4) (mVar 6)) (mC (.int 0))) (mBin ixD (mBin ixD (mVar 4) (mBin subD (mVar 6) (mC (.int 1)))) (mC (.int 1)))) (mBin mulD (mBin ixD (mBin ixD (mVar 4) (mBin subD (mVar 6) (mC (.int 1)))) (mC (.int 0))) (mBin ixD (mBin ixD (mVar 4) (mVar 6)) (mC (.int 1))))) mNil)) (mC (.int 1)))) (mRet (mC (.bl false))) mSkip)
    (iRow 1 (((near n d).length : Int) - 1).toNat) (dS c n d g l (near n d) x6 x7 x8 x9 x10 x11 x12) = .nx (dS c n d g l (near n d) y6 x7 x8 x9 x10 x11 x12) := by
  have := e60
  obtain ⟨τ, h, y6, rfl⟩ := for_all (mt := tgN 6) (mb := (mIfS (mTest (mBin neD (mCB absD (mCons (mBin subD (mBin mulD (mBin ixD (mBin ixD (mVar 4) (mVar 6)) (mC (.int 0))) (mBin ixD (mBin ixD (mVar 4) (mBin subD (mVar 6) (mC (.int 1)))) (mC (.int 1)))) (mBin mulD (mBin ixD (mBin ixD (mVar 4) (mBin subD (mVar 6) (mC (.int 1)))) (mC (.int 0))) (mBin ixD (mBin ixD (mVar 4) (mVar 6)) (mC (.int 1))))) mNil)) (mC (.int 1)))) (mRet (mC (.bl false))) mSkip))
    (xs := iRow 1 (((near n d).length : Int) - 1).toNat) (τ := dS c n d g l (near n d) x6 x7 x8 x9 x10 x11 x12) (fun _ τ => ∃ y6, τ = dS c n d g l (near n d) y6 x7 x8 x9 x10 x11 x12) ⟨x6, rfl⟩ (fun i x τ hx ⟨y6, eτ⟩ => by
      subst eτ
      obtain ⟨hi, rfl⟩ := iRow_get.mp hx
      have hi1 : i + 1 < (near n d).length := by omega
      have g1 : (near n d)[i + 1]? = some (near n d)[i + 1] := List.getElem?_eq_getElem hi1
      have g0 : (near n d)[i]? = some (near n d)[i] := List.getElem?_eq_getElem (by omega)
      obtain ⟨y, D1, D2, s, hA, hD, hy⟩ := near_at g1
      have hy2 : (near n d)[i]? = some y := hy
      rw [g0] at hy2
      have hb1 := near_le (List.mem_of_getElem? g1)
      have hb0 := near_le (List.mem_of_getElem? g0)
      have hdet := hA.det
      rw [← Option.some.inj hy2] at hdet
      generalize (near n d)[i + 1] = u at *
      generalize (near n d)[i] = v at *
      have a1 : L2.atI (dTs (near n d)) ((1 : Int) + i) = some (.tup [dI u.1, dI u.2]) := by
        rw [show ((1 : Int) + i) = ((i + 1 : Nat) : Int) by push_cast; omega]
        exact atI_at (by rw [dTs, List.getElem?_map, g1]; rfl)
      have a0 : L2.atI (dTs (near n d)) ((1 : Int) + i - 1) = some (.tup [dI v.1, dI v.2]) := by
        rw [show ((1 : Int) + i - 1) = ((i : Nat) : Int) by omega]
        exact atI_at (by rw [dTs, List.getElem?_map, g0]; rfl)
      have b0 : ∀ x y : D, L2.atI [x, y] 0 = some x := fun _ _ => rfl
      have b1 : ∀ x y : D, L2.atI [x, y] 1 = some y := fun _ _ => rfl
      have k1 : L2.CMul (u.1 : Int) (v.2 : Int) := c_rn (by omega)
      have k2 : L2.CMul (v.1 : Int) (u.2 : Int) := c_rn (by omega)
      have hs : ((((u.1 : Int) * v.2 - v.1 * u.2).natAbs : Nat) : Int) = 1 := by
        rw [hdet]
        rcases hA.sq with z | z <;> rw [z] <;> rfl
      refine ⟨_, dS c n d g l (near n d) (.dat (.int ((1 : Int) + i))) x7 x8 x9 x10 x11 x12, rfl, ?_, _, rfl⟩
      simp only [v_bok, v_berr, v_sok, v_serr, v_nx, v_rt, v_bk, v_ct, v_er, v_ofs, v_var, v_slot_dat, v_slot_own, v_c, v_bin, v_kbin, v_op2, v_pk2, v_un, v_op1, v_pk1, v_peek_dat, v_peek_fr, v_peek_slot, v_pslot_own, v_pslot_dat, v_cnl, v_test, v_ktest, v_andT, v_kand1, v_kand0, v_orT, v_kor1, v_kor0, v_notT, v_knotT, v_and, v_kAnd1, v_kAnd0, v_or, v_kOr1, v_kOr0, v_not, v_knot, v_if, v_kif1, v_kif0, v_isNone, v_notNone, v_nil, v_cons, v_kcons, v_kcons2, v_fast, v_kfast, v_all0, v_all1, v_kall, v_kall2, v_force_dat, v_force_fr, v_force_slot, v_fslot_own, v_fslot_dat, v_tup, v_ktup, v_lst, v_klst, v_call, v_callF, v_at_ok, v_at_err, v_callB, v_vown, v_kcallB, v_vB, v_atB, v_meth, v_vM, v_methAt, v_vM2, v_vM3, v_append, v_pop, v_cb, v_kcb, v_pkL, v_peeks0, v_peeks1, v_cons22, v_isi, v_sl, v_ksl, v_ksl2, v_ksl3, v_slE_l, v_slE_t, v_slE_r, v_some, v_ksome, v_none, v_revSl, v_iter, v_it_l, v_it_r, v_it_t, v_rng1, v_rng2, v_lc, v_klc, v_klc2, v_yes, v_callV, v_vV, v_vV2, v_seq, v_skip, v_break, v_cont, v_raise, v_drop, v_kdrop, v_ret, v_ret_dat, v_ret_fr, v_ret_slot, v_rslot_own, v_rslot_dat, v_retN, v_ifS, v_kifS1, v_kifS0, v_set, v_put_dat, v_put_fr, v_put_slot, v_kput, v_asg, v_kasg, v_kasg2, v_tgN, v_tgNil, v_tgCons, v_ktg, v_tgT, v_par, v_kpar, v_kpar1, v_kpar2, v_kpar3, v_fix_dat, v_fix_fr, v_fix_slot, v_kfix, v_aug, v_aslot, v_kaug, v_kaug2, v_for, v_try, v_ktry_nx, v_ktry_rt, v_ktry_er, v_ktry2, v_ktry3, v_runF, v_endF_rt, v_endF_nx, v_endF_er, v_runB, v_endB_rt, v_endB_nx, v_add, v_sub, v_mul, v_mod, v_fdiv, v_neg, v_lt, v_cmp, v_eq, v_ne, v_absD, v_int1, v_len_l, v_len_t, v_len_r, v_list_l, v_list_t, v_rev_l, v_rev_r, v_ixt, v_ixl, v_ixr, v_kb_NoneType_bool, v_kb_NoneType_int, v_kb_NoneType_str, v_kb_NoneType_tuple, v_kb_NoneType_list, v_kb_NoneType_dict, v_kb_bool_bool, v_kb_bool_int, v_kb_bool_str, v_kb_bool_tuple, v_kb_bool_list, v_kb_bool_dict, v_kb_int_bool, v_kb_int_int, v_kb_int_str, v_kb_int_tuple, v_kb_int_list, v_kb_int_dict, v_kb_str_bool, v_kb_str_int, v_kb_str_str, v_kb_str_tuple, v_kb_str_list, v_kb_str_dict, v_kb_tuple_bool, v_kb_tuple_int, v_kb_tuple_str, v_kb_tuple_tuple, v_kb_tuple_list, v_kb_tuple_dict, v_kb_list_bool, v_kb_list_int, v_kb_list_str, v_kb_list_tuple, v_kb_list_list, v_kb_list_dict, v_kb_dict_bool, v_kb_dict_int, v_kb_dict_str, v_kb_dict_tuple, v_kb_dict_list, v_kb_dict_dict, v_isi_non, v_isi_bl, v_isi_int, v_isi_str, v_isi_tup, v_isi_lst, v_isi_dct, v_eq_bb, v_ne_bb, v_isNone_non, v_isNone_bl, v_isNone_int, v_isNone_str, v_isNone_tup, v_isNone_lst, List.map_cons, List.map_nil, List.length_cons, List.length_nil, List.cons_append, List.nil_append, List.replicate_succ, List.replicate_zero, List.getElem?_cons_zero, List.getElem?_cons_succ, List.set_cons_zero, List.set_cons_succ, Option.map_some, Nat.reduceSub, Nat.reduceAdd, Nat.reduceLT, Nat.reduceLeDiff, bigN, dS, a1, a0, b0, b1, v_mul k1, v_mul k2, absN, hs, beq_self_eq_true, Bool.not_true])
  exact ⟨y6, h⟩
theorem d_few (hl : nr.length ≤ 1000) : compL [12] (tgN 12) (mTest (mBin ltD (mBin ixD (mVar 12) (mC (.int 1))) (mC (.int 40)))) (mVar 12) (dTs nr) [] (dS c n d g l nr x6 x7 x8 x9 x10 x11 x12) = .ok (dTs (nr.filter fun x => decide (x.2 < 40))) (dS c n d g l nr x6 x7 x8 x9 x10 x11 x12) := by
  have := comp_map (vs := [12]) (mt := tgN 12) (mc := mTest (mBin ltD (mBin ixD (mVar 12) (mC (.int 1))) (mC (.int 40)))) (me := mVar 12) (τ := dS c n d g l nr x6 x7 x8 x9 x10 x11 x12) (fun x => match x with | .tup [_, .int q] => decide (q < 40) | _ => false) (fun x => x) (xs := dTs nr) (fun x hx => by
    obtain ⟨a, ha, rfl⟩ := List.mem_map.mp hx
    have b1 : L2.atI [dI a.1, dI a.2] 1 = some (dI a.2) := rfl
    refine ⟨dS c n d g l nr x6 x7 x8 x9 x10 x11 (.dat (dT a)), dS c n d g l nr x6 x7 x8 x9 x10 x11 (.dat (dT a)), rfl, ?_, fun _ => rfl, fun z => ⟨.dat (dT a), dS c n d g l nr x6 x7 x8 x9 x10 x11 (.dat (dT a)), dS c n d g l nr x6 x7 x8 x9 x10 x11 (.dat (dT a)), ?_, rfl, rfl⟩⟩
    · simp only [v_bok, v_berr, v_sok, v_serr, v_nx, v_rt, v_bk, v_ct, v_er, v_ofs, v_var, v_slot_dat, v_slot_own, v_c, v_bin, v_kbin, v_op2, v_pk2, v_un, v_op1, v_pk1, v_peek_dat, v_peek_fr, v_peek_slot, v_pslot_own, v_pslot_dat, v_cnl, v_test, v_ktest, v_andT, v_kand1, v_kand0, v_orT, v_kor1, v_kor0, v_notT, v_knotT, v_and, v_kAnd1, v_kAnd0, v_or, v_kOr1, v_kOr0, v_not, v_knot, v_if, v_kif1, v_kif0, v_isNone, v_notNone, v_nil, v_cons, v_kcons, v_kcons2, v_fast, v_kfast, v_all0, v_all1, v_kall, v_kall2, v_force_dat, v_force_fr, v_force_slot, v_fslot_own, v_fslot_dat, v_tup, v_ktup, v_lst, v_klst, v_call, v_callF, v_at_ok, v_at_err, v_callB, v_vown, v_kcallB, v_vB, v_atB, v_meth, v_vM, v_methAt, v_vM2, v_vM3, v_append, v_pop, v_cb, v_kcb, v_pkL, v_peeks0, v_peeks1, v_cons22, v_isi, v_sl, v_ksl, v_ksl2, v_ksl3, v_slE_l, v_slE_t, v_slE_r, v_some, v_ksome, v_none, v_revSl, v_iter, v_it_l, v_it_r, v_it_t, v_rng1, v_rng2, v_lc, v_klc, v_klc2, v_yes, v_callV, v_vV, v_vV2, v_seq, v_skip, v_break, v_cont, v_raise, v_drop, v_kdrop, v_ret, v_ret_dat, v_ret_fr, v_ret_slot, v_rslot_own, v_rslot_dat, v_retN, v_ifS, v_kifS1, v_kifS0, v_set, v_put_dat, v_put_fr, v_put_slot, v_kput, v_asg, v_kasg, v_kasg2, v_tgN, v_tgNil, v_tgCons, v_ktg, v_tgT, v_par, v_kpar, v_kpar1, v_kpar2, v_kpar3, v_fix_dat, v_fix_fr, v_fix_slot, v_kfix, v_aug, v_aslot, v_kaug, v_kaug2, v_for, v_try, v_ktry_nx, v_ktry_rt, v_ktry_er, v_ktry2, v_ktry3, v_runF, v_endF_rt, v_endF_nx, v_endF_er, v_runB, v_endB_rt, v_endB_nx, v_add, v_sub, v_mul, v_mod, v_fdiv, v_neg, v_lt, v_cmp, v_eq, v_ne, v_absD, v_int1, v_len_l, v_len_t, v_len_r, v_list_l, v_list_t, v_rev_l, v_rev_r, v_ixt, v_ixl, v_ixr, v_kb_NoneType_bool, v_kb_NoneType_int, v_kb_NoneType_str, v_kb_NoneType_tuple, v_kb_NoneType_list, v_kb_NoneType_dict, v_kb_bool_bool, v_kb_bool_int, v_kb_bool_str, v_kb_bool_tuple, v_kb_bool_list, v_kb_bool_dict, v_kb_int_bool, v_kb_int_int, v_kb_int_str, v_kb_int_tuple, v_kb_int_list, v_kb_int_dict, v_kb_str_bool, v_kb_str_int, v_kb_str_str, v_kb_str_tuple, v_kb_str_list, v_kb_str_dict, v_kb_tuple_bool, v_kb_tuple_int, v_kb_tuple_str, v_kb_tuple_tuple, v_kb_tuple_list, v_kb_tuple_dict, v_kb_list_bool, v_kb_list_int, v_kb_list_str, v_kb_list_tuple, v_kb_list_list, v_kb_list_dict, v_kb_dict_bool, v_kb_dict_int, v_kb_dict_str, v_kb_dict_tuple, v_kb_dict_list, v_kb_dict_dict, v_isi_non, v_isi_bl, v_isi_int, v_isi_str, v_isi_tup, v_isi_lst, v_isi_dct, v_eq_bb, v_ne_bb, v_isNone_non, v_isNone_bl, v_isNone_int, v_isNone_str, v_isNone_tup, v_isNone_lst, List.map_cons, List.map_nil, List.length_cons, List.length_nil, List.cons_append, List.nil_append, List.replicate_succ, List.replicate_zero, List.getElem?_cons_zero, List.getElem?_cons_succ, List.set_cons_zero, List.set_cons_succ, Option.map_some, Nat.reduceSub, Nat.reduceAdd, Nat.reduceLT, Nat.reduceLeDiff, bigN, dS, dT, b1]
    · simp only [v_bok, v_berr, v_sok, v_serr, v_nx, v_rt, v_bk, v_ct, v_er, v_ofs, v_var, v_slot_dat, v_slot_own, v_c, v_bin, v_kbin, v_op2, v_pk2, v_un, v_op1, v_pk1, v_peek_dat, v_peek_fr, v_peek_slot, v_pslot_own, v_pslot_dat, v_cnl, v_test, v_ktest, v_andT, v_kand1, v_kand0, v_orT, v_kor1, v_kor0, v_notT, v_knotT, v_and, v_kAnd1, v_kAnd0, v_or, v_kOr1, v_kOr0, v_not, v_knot, v_if, v_kif1, v_kif0, v_isNone, v_notNone, v_nil, v_cons, v_kcons, v_kcons2, v_fast, v_kfast, v_all0, v_all1, v_kall, v_kall2, v_force_dat, v_force_fr, v_force_slot, v_fslot_own, v_fslot_dat, v_tup, v_ktup, v_lst, v_klst, v_call, v_callF, v_at_ok, v_at_err, v_callB, v_vown, v_kcallB, v_vB, v_atB, v_meth, v_vM, v_methAt, v_vM2, v_vM3, v_append, v_pop, v_cb, v_kcb, v_pkL, v_peeks0, v_peeks1, v_cons22, v_isi, v_sl, v_ksl, v_ksl2, v_ksl3, v_slE_l, v_slE_t, v_slE_r, v_some, v_ksome, v_none, v_revSl, v_iter, v_it_l, v_it_r, v_it_t, v_rng1, v_rng2, v_lc, v_klc, v_klc2, v_yes, v_callV, v_vV, v_vV2, v_seq, v_skip, v_break, v_cont, v_raise, v_drop, v_kdrop, v_ret, v_ret_dat, v_ret_fr, v_ret_slot, v_rslot_own, v_rslot_dat, v_retN, v_ifS, v_kifS1, v_kifS0, v_set, v_put_dat, v_put_fr, v_put_slot, v_kput, v_asg, v_kasg, v_kasg2, v_tgN, v_tgNil, v_tgCons, v_ktg, v_tgT, v_par, v_kpar, v_kpar1, v_kpar2, v_kpar3, v_fix_dat, v_fix_fr, v_fix_slot, v_kfix, v_aug, v_aslot, v_kaug, v_kaug2, v_for, v_try, v_ktry_nx, v_ktry_rt, v_ktry_er, v_ktry2, v_ktry3, v_runF, v_endF_rt, v_endF_nx, v_endF_er, v_runB, v_endB_rt, v_endB_nx, v_add, v_sub, v_mul, v_mod, v_fdiv, v_neg, v_lt, v_cmp, v_eq, v_ne, v_absD, v_int1, v_len_l, v_len_t, v_len_r, v_list_l, v_list_t, v_rev_l, v_rev_r, v_ixt, v_ixl, v_ixr, v_kb_NoneType_bool, v_kb_NoneType_int, v_kb_NoneType_str, v_kb_NoneType_tuple, v_kb_NoneType_list, v_kb_NoneType_dict, v_kb_bool_bool, v_kb_bool_int, v_kb_bool_str, v_kb_bool_tuple, v_kb_bool_list, v_kb_bool_dict, v_kb_int_bool, v_kb_int_int, v_kb_int_str, v_kb_int_tuple, v_kb_int_list, v_kb_int_dict, v_kb_str_bool, v_kb_str_int, v_kb_str_str, v_kb_str_tuple, v_kb_str_list, v_kb_str_dict, v_kb_tuple_bool, v_kb_tuple_int, v_kb_tuple_str, v_kb_tuple_tuple, v_kb_tuple_list, v_kb_tuple_dict, v_kb_list_bool, v_kb_list_int, v_kb_list_str, v_kb_list_tuple, v_kb_list_list, v_kb_list_dict, v_kb_dict_bool, v_kb_dict_int, v_kb_dict_str, v_kb_dict_tuple, v_kb_dict_list, v_kb_dict_dict, v_isi_non, v_isi_bl, v_isi_int, v_isi_str, v_isi_tup, v_isi_lst, v_isi_dct, v_eq_bb, v_ne_bb, v_isNone_non, v_isNone_bl, v_isNone_int, v_isNone_str, v_isNone_tup, v_isNone_lst, List.map_cons, List.map_nil, List.length_cons, List.length_nil, List.cons_append, List.nil_append, List.replicate_succ, List.replicate_zero, List.getElem?_cons_zero, List.getElem?_cons_succ, List.set_cons_zero, List.set_cons_succ, Option.map_some, Nat.reduceSub, Nat.reduceAdd, Nat.reduceLT, Nat.reduceLeDiff, bigN, dS]) [] (by unfold dTs bigN; simp; omega)
  rw [this, List.nil_append, List.map_id']
  congr 1
  rw [dTs, List.filter_map]
  congr 1
  apply List.filter_congr
  intro x _
  show decide ((x.2 : Int) < 40) = decide (x.2 < 40)
  rw [decide_eq_decide]
  omega
theorem d_near (hd0 : 0 < d) (hn : n < 2 ^ 60) (hd : d < 2 ^ 60) : ∃ y7 y8 y9 y10, forL (tgT 2 (tgCons (tgN 7) (tgCons (tgN 8) tgNil))) (mFor (mFast (mCons (mC (.int 1)) (mCons (mVar 8) mNil)) rng2) (tgN 9) (mFor (mIter (mLst (mCons (mBin fdivD (mBin mulD (mVar 1) (mVar 9)) (mVar 2)) (mCons (mBin addD (mBin fdivD (mBin mulD (mVar 1) (mVar 9)) (mVar 2)) (mC (.int 1))) mNil)))) (tgN 10) (mIfS (mNotT (mTest (mCall 4 F_law_is_nearer (mCons (mVar 1) (mCons (mVar 2) (mCons (mTup (mCons (mVar 7) (mCons (mVar 8) mNil))) (mCons (mTup (mCons (mVar 10) (mCons (mVar 9) mNil))) mNil))))))) (mRet (mC (.bl false))) mSkip)))
    (dTs ((near n d).filter fun x => decide (x.2 < 40))) (dS c n d g l nr x6 x7 x8 x9 x10 x11 x12) = .nx (dS c n d g l nr x6 y7 y8 y9 y10 x11 x12) := by
  have := e60
  obtain ⟨τ, h, y7, y8, y9, y10, rfl⟩ := for_all (mt := (tgT 2 (tgCons (tgN 7) (tgCons (tgN 8) tgNil)))) (mb := (mFor (mFast (mCons (mC (.int 1)) (mCons (mVar 8) mNil)) rng2) (tgN 9) (mFor (mIter (mLst (mCons (mBin fdivD (mBin mulD (mVar 1) (mVar 9)) (mVar 2)) (mCons (mBin addD (mBin fdivD (mBin mulD (mVar 1) (mVar 9)) (mVar 2)) (mC (.int 1))) mNil)))) (tgN 10) (mIfS (mNotT (mTest (mCall 4 F_law_is_nearer (mCons (mVar 1) (mCons (mVar 2) (mCons (mTup (mCons (mVar 7) (mCons (mVar 8) mNil))) (mCons (mTup (mCons (mVar 10) (mCons (mVar 9) mNil))) mNil))))))) (mRet (mC (.bl false))) mSkip))))
    (xs := dTs ((near n d).filter fun x => decide (x.2 < 40))) (τ := dS c n d g l nr x6 x7 x8 x9 x10 x11 x12) (fun _ τ => ∃ y7 y8 y9 y10, τ = dS c n d g l nr x6 y7 y8 y9 y10 x11 x12) ⟨x7, x8, x9, x10, rfl⟩ (fun i x τ hx ⟨y7, y8, y9, y10, eτ⟩ => by
      subst eτ
      obtain ⟨a, ha, rfl⟩ := List.mem_map.mp (List.mem_of_getElem? hx)
      obtain ⟨ha1, ha2⟩ := List.mem_filter.mp ha
      have hq : a.2 < 40 := of_decide_eq_true ha2
      obtain ⟨k, hk⟩ := List.getElem?_of_mem ha1
      obtain ⟨y, D1, D2, s0, hA, hD, _⟩ := near_at hk
      have inner : ∀ (s : Nat) (z10 : SV), 1 ≤ s → s < a.2 → ∃ w10, forL (tgN 10) (mIfS (mNotT (mTest (mCall 4 F_law_is_nearer (mCons (mVar 1) (mCons (mVar 2) (mCons (mTup (mCons (mVar 7) (mCons (mVar 8) mNil))) (mCons (mTup (mCons (mVar 10) (mCons (mVar 9) mNil))) mNil))))))) (mRet (mC (.bl false))) mSkip) [.int (((n : Int) * s) / d), .int (((n : Int) * s) / d + 1)] (dS c n d g l nr x6 (.dat (dI a.1)) (.dat (dI a.2)) (.dat (dI s)) z10 x11 x12) = .nx (dS c n d g l nr x6 (.dat (dI a.1)) (.dat (dI a.2)) (.dat (dI s)) w10 x11 x12) := by
        intro s z10 h1 h2
        have nr1 := fun r : Int => e_nearer (n := n) (d := d) (p := a.1) (q := a.2) (s := s) (r := r) (by omega) (by omega) (by omega)
        have nr2 := fun r : Int => hA.near hD (t := (s : Int)) (r := r) (by omega) (by omega)
        refine ⟨.dat (.int (((n : Int) * s) / d + 1)), ?_⟩
        simp only [v_bok, v_berr, v_sok, v_serr, v_nx, v_rt, v_bk, v_ct, v_er, v_ofs, v_var, v_slot_dat, v_slot_own, v_c, v_bin, v_kbin, v_op2, v_pk2, v_un, v_op1, v_pk1, v_peek_dat, v_peek_fr, v_peek_slot, v_pslot_own, v_pslot_dat, v_cnl, v_test, v_ktest, v_andT, v_kand1, v_kand0, v_orT, v_kor1, v_kor0, v_notT, v_knotT, v_and, v_kAnd1, v_kAnd0, v_or, v_kOr1, v_kOr0, v_not, v_knot, v_if, v_kif1, v_kif0, v_isNone, v_notNone, v_nil, v_cons, v_kcons, v_kcons2, v_fast, v_kfast, v_all0, v_all1, v_kall, v_kall2, v_force_dat, v_force_fr, v_force_slot, v_fslot_own, v_fslot_dat, v_tup, v_ktup, v_lst, v_klst, v_call, v_callF, v_at_ok, v_at_err, v_callB, v_vown, v_kcallB, v_vB, v_atB, v_meth, v_vM, v_methAt, v_vM2, v_vM3, v_append, v_pop, v_cb, v_kcb, v_pkL, v_peeks0, v_peeks1, v_cons22, v_isi, v_sl, v_ksl, v_ksl2, v_ksl3, v_slE_l, v_slE_t, v_slE_r, v_some, v_ksome, v_none, v_revSl, v_iter, v_it_l, v_it_r, v_it_t, v_rng1, v_rng2, v_lc, v_klc, v_klc2, v_yes, v_callV, v_vV, v_vV2, v_seq, v_skip, v_break, v_cont, v_raise, v_drop, v_kdrop, v_ret, v_ret_dat, v_ret_fr, v_ret_slot, v_rslot_own, v_rslot_dat, v_retN, v_ifS, v_kifS1, v_kifS0, v_set, v_put_dat, v_put_fr, v_put_slot, v_kput, v_asg, v_kasg, v_kasg2, v_tgN, v_tgNil, v_tgCons, v_ktg, v_tgT, v_par, v_kpar, v_kpar1, v_kpar2, v_kpar3, v_fix_dat, v_fix_fr, v_fix_slot, v_kfix, v_aug, v_aslot, v_kaug, v_kaug2, v_for, v_try, v_ktry_nx, v_ktry_rt, v_ktry_er, v_ktry2, v_ktry3, v_runF, v_endF_rt, v_endF_nx, v_endF_er, v_runB, v_endB_rt, v_endB_nx, v_add, v_sub, v_mul, v_mod, v_fdiv, v_neg, v_lt, v_cmp, v_eq, v_ne, v_absD, v_int1, v_len_l, v_len_t, v_len_r, v_list_l, v_list_t, v_rev_l, v_rev_r, v_ixt, v_ixl, v_ixr, v_kb_NoneType_bool, v_kb_NoneType_int, v_kb_NoneType_str, v_kb_NoneType_tuple, v_kb_NoneType_list, v_kb_NoneType_dict, v_kb_bool_bool, v_kb_bool_int, v_kb_bool_str, v_kb_bool_tuple, v_kb_bool_list, v_kb_bool_dict, v_kb_int_bool, v_kb_int_int, v_kb_int_str, v_kb_int_tuple, v_kb_int_list, v_kb_int_dict, v_kb_str_bool, v_kb_str_int, v_kb_str_str, v_kb_str_tuple, v_kb_str_list, v_kb_str_dict, v_kb_tuple_bool, v_kb_tuple_int, v_kb_tuple_str, v_kb_tuple_tuple, v_kb_tuple_list, v_kb_tuple_dict, v_kb_list_bool, v_kb_list_int, v_kb_list_str, v_kb_list_tuple, v_kb_list_list, v_kb_list_dict, v_kb_dict_bool, v_kb_dict_int, v_kb_dict_str, v_kb_dict_tuple, v_kb_dict_list, v_kb_dict_dict, v_isi_non, v_isi_bl, v_isi_int, v_isi_str, v_isi_tup, v_isi_lst, v_isi_dct, v_eq_bb, v_ne_bb, v_isNone_non, v_isNone_bl, v_isNone_int, v_isNone_str, v_isNone_tup, v_isNone_lst, List.map_cons, List.map_nil, List.length_cons, List.length_nil, List.cons_append, List.nil_append, List.replicate_succ, List.replicate_zero, List.getElem?_cons_zero, List.getElem?_cons_succ, List.set_cons_zero, List.set_cons_succ, Option.map_some, Nat.reduceSub, Nat.reduceAdd, Nat.reduceLT, Nat.reduceLeDiff, bigN, v_for0, v_for1, v_kfor, v_kfor_bk, v_kfor_ct, v_kfor_er, v_kfor_nx, v_kfor_rt, dS, nr1, decide_eq_true (nr2 _), Bool.not_true]
      obtain ⟨τ2, h2, z9, z10, rfl⟩ := for_all (mt := tgN 9) (mb := (mFor (mIter (mLst (mCons (mBin fdivD (mBin mulD (mVar 1) (mVar 9)) (mVar 2)) (mCons (mBin addD (mBin fdivD (mBin mulD (mVar 1) (mVar 9)) (mVar 2)) (mC (.int 1))) mNil)))) (tgN 10) (mIfS (mNotT (mTest (mCall 4 F_law_is_nearer (mCons (mVar 1) (mCons (mVar 2) (mCons (mTup (mCons (mVar 7) (mCons (mVar 8) mNil))) (mCons (mTup (mCons (mVar 10) (mCons (mVar 9) mNil))) mNil))))))) (mRet (mC (.bl false))) mSkip)))
        (xs := iRow 1 ((a.2 : Int) - 1).toNat) (τ := dS c n d g l nr x6 (.dat (dI a.1)) (.dat (dI a.2)) y9 y10 x11 x12) (fun _ τ => ∃ z9 z10, τ = dS c n d g l nr x6 (.dat (dI a.1)) (.dat (dI a.2)) z9 z10 x11 x12) ⟨y9, y10, rfl⟩ (fun j x τ hx ⟨z9, z10, eτ⟩ => by
          subst eτ
          obtain ⟨hj, rfl⟩ := iRow_get.mp hx
          have es : ((1 : Int) + j) = ((j + 1 : Nat) : Int) := by push_cast; omega
          rw [es]
          obtain ⟨w10, hw⟩ := inner (j + 1) z10 (by omega) (by omega)
          refine ⟨_, dS c n d g l nr x6 (.dat (dI a.1)) (.dat (dI a.2)) (.dat (dI (j + 1))) w10 x11 x12, rfl, ?_, _, _, rfl⟩
          have k1 : L2.CMul (n : Int) ((j + 1 : Nat) : Int) := c_rn (by omega)
          have h1 : (0 : Int) < (d : Int) := by omega
          have h2 := lt250 (m := (d : Int)) (by omega)
          unfold dS at hw
          simp only [v_bok, v_berr, v_sok, v_serr, v_nx, v_rt, v_bk, v_ct, v_er, v_ofs, v_var, v_slot_dat, v_slot_own, v_c, v_bin, v_kbin, v_op2, v_pk2, v_un, v_op1, v_pk1, v_peek_dat, v_peek_fr, v_peek_slot, v_pslot_own, v_pslot_dat, v_cnl, v_test, v_ktest, v_andT, v_kand1, v_kand0, v_orT, v_kor1, v_kor0, v_notT, v_knotT, v_and, v_kAnd1, v_kAnd0, v_or, v_kOr1, v_kOr0, v_not, v_knot, v_if, v_kif1, v_kif0, v_isNone, v_notNone, v_nil, v_cons, v_kcons, v_kcons2, v_fast, v_kfast, v_all0, v_all1, v_kall, v_kall2, v_force_dat, v_force_fr, v_force_slot, v_fslot_own, v_fslot_dat, v_tup, v_ktup, v_lst, v_klst, v_call, v_callF, v_at_ok, v_at_err, v_callB, v_vown, v_kcallB, v_vB, v_atB, v_meth, v_vM, v_methAt, v_vM2, v_vM3, v_append, v_pop, v_cb, v_kcb, v_pkL, v_peeks0, v_peeks1, v_cons22, v_isi, v_sl, v_ksl, v_ksl2, v_ksl3, v_slE_l, v_slE_t, v_slE_r, v_some, v_ksome, v_none, v_revSl, v_iter, v_it_l, v_it_r, v_it_t, v_rng1, v_rng2, v_lc, v_klc, v_klc2, v_yes, v_callV, v_vV, v_vV2, v_seq, v_skip, v_break, v_cont, v_raise, v_drop, v_kdrop, v_ret, v_ret_dat, v_ret_fr, v_ret_slot, v_rslot_own, v_rslot_dat, v_retN, v_ifS, v_kifS1, v_kifS0, v_set, v_put_dat, v_put_fr, v_put_slot, v_kput, v_asg, v_kasg, v_kasg2, v_tgN, v_tgNil, v_tgCons, v_ktg, v_tgT, v_par, v_kpar, v_kpar1, v_kpar2, v_kpar3, v_fix_dat, v_fix_fr, v_fix_slot, v_kfix, v_aug, v_aslot, v_kaug, v_kaug2, v_for, v_try, v_ktry_nx, v_ktry_rt, v_ktry_er, v_ktry2, v_ktry3, v_runF, v_endF_rt, v_endF_nx, v_endF_er, v_runB, v_endB_rt, v_endB_nx, v_add, v_sub, v_mul, v_mod, v_fdiv, v_neg, v_lt, v_cmp, v_eq, v_ne, v_absD, v_int1, v_len_l, v_len_t, v_len_r, v_list_l, v_list_t, v_rev_l, v_rev_r, v_ixt, v_ixl, v_ixr, v_kb_NoneType_bool, v_kb_NoneType_int, v_kb_NoneType_str, v_kb_NoneType_tuple, v_kb_NoneType_list, v_kb_NoneType_dict, v_kb_bool_bool, v_kb_bool_int, v_kb_bool_str, v_kb_bool_tuple, v_kb_bool_list, v_kb_bool_dict, v_kb_int_bool, v_kb_int_int, v_kb_int_str, v_kb_int_tuple, v_kb_int_list, v_kb_int_dict, v_kb_str_bool, v_kb_str_int, v_kb_str_str, v_kb_str_tuple, v_kb_str_list, v_kb_str_dict, v_kb_tuple_bool, v_kb_tuple_int, v_kb_tuple_str, v_kb_tuple_tuple, v_kb_tuple_list, v_kb_tuple_dict, v_kb_list_bool, v_kb_list_int, v_kb_list_str, v_kb_list_tuple, v_kb_list_list, v_kb_list_dict, v_kb_dict_bool, v_kb_dict_int, v_kb_dict_str, v_kb_dict_tuple, v_kb_dict_list, v_kb_dict_dict, v_isi_non, v_isi_bl, v_isi_int, v_isi_str, v_isi_tup, v_isi_lst, v_isi_dct, v_eq_bb, v_ne_bb, v_isNone_non, v_isNone_bl, v_isNone_int, v_isNone_str, v_isNone_tup, v_isNone_lst, List.map_cons, List.map_nil, List.length_cons, List.length_nil, List.cons_append, List.nil_append, List.replicate_succ, List.replicate_zero, List.getElem?_cons_zero, List.getElem?_cons_succ, List.set_cons_zero, List.set_cons_succ, Option.map_some, Nat.reduceSub, Nat.reduceAdd, Nat.reduceLT, Nat.reduceLeDiff, bigN, dS, v_mul k1, v_fdiv h1 h2, fd (Int.le_of_lt h1), hw])
      refine ⟨dS c n d g l nr x6 (.dat (dI a.1)) (.dat (dI a.2)) y9 y10 x11 x12, dS c n d g l nr x6 (.dat (dI a.1)) (.dat (dI a.2)) z9 z10 x11 x12, rfl, ?_, _, _, _, _, rfl⟩
      unfold dS at h2
      simp only [v_bok, v_berr, v_sok, v_serr, v_nx, v_rt, v_bk, v_ct, v_er, v_ofs, v_var, v_slot_dat, v_slot_own, v_c, v_bin, v_kbin, v_op2, v_pk2, v_un, v_op1, v_pk1, v_peek_dat, v_peek_fr, v_peek_slot, v_pslot_own, v_pslot_dat, v_cnl, v_test, v_ktest, v_andT, v_kand1, v_kand0, v_orT, v_kor1, v_kor0, v_notT, v_knotT, v_and, v_kAnd1, v_kAnd0, v_or, v_kOr1, v_kOr0, v_not, v_knot, v_if, v_kif1, v_kif0, v_isNone, v_notNone, v_nil, v_cons, v_kcons, v_kcons2, v_fast, v_kfast, v_all0, v_all1, v_kall, v_kall2, v_force_dat, v_force_fr, v_force_slot, v_fslot_own, v_fslot_dat, v_tup, v_ktup, v_lst, v_klst, v_call, v_callF, v_at_ok, v_at_err, v_callB, v_vown, v_kcallB, v_vB, v_atB, v_meth, v_vM, v_methAt, v_vM2, v_vM3, v_append, v_pop, v_cb, v_kcb, v_pkL, v_peeks0, v_peeks1, v_cons22, v_isi, v_sl, v_ksl, v_ksl2, v_ksl3, v_slE_l, v_slE_t, v_slE_r, v_some, v_ksome, v_none, v_revSl, v_iter, v_it_l, v_it_r, v_it_t, v_rng1, v_rng2, v_lc, v_klc, v_klc2, v_yes, v_callV, v_vV, v_vV2, v_seq, v_skip, v_break, v_cont, v_raise, v_drop, v_kdrop, v_ret, v_ret_dat, v_ret_fr, v_ret_slot, v_rslot_own, v_rslot_dat, v_retN, v_ifS, v_kifS1, v_kifS0, v_set, v_put_dat, v_put_fr, v_put_slot, v_kput, v_asg, v_kasg, v_kasg2, v_tgN, v_tgNil, v_tgCons, v_ktg, v_tgT, v_par, v_kpar, v_kpar1, v_kpar2, v_kpar3, v_fix_dat, v_fix_fr, v_fix_slot, v_kfix, v_aug, v_aslot, v_kaug, v_kaug2, v_for, v_try, v_ktry_nx, v_ktry_rt, v_ktry_er, v_ktry2, v_ktry3, v_runF, v_endF_rt, v_endF_nx, v_endF_er, v_runB, v_endB_rt, v_endB_nx, v_add, v_sub, v_mul, v_mod, v_fdiv, v_neg, v_lt, v_cmp, v_eq, v_ne, v_absD, v_int1, v_len_l, v_len_t, v_len_r, v_list_l, v_list_t, v_rev_l, v_rev_r, v_ixt, v_ixl, v_ixr, v_kb_NoneType_bool, v_kb_NoneType_int, v_kb_NoneType_str, v_kb_NoneType_tuple, v_kb_NoneType_list, v_kb_NoneType_dict, v_kb_bool_bool, v_kb_bool_int, v_kb_bool_str, v_kb_bool_tuple, v_kb_bool_list, v_kb_bool_dict, v_kb_int_bool, v_kb_int_int, v_kb_int_str, v_kb_int_tuple, v_kb_int_list, v_kb_int_dict, v_kb_str_bool, v_kb_str_int, v_kb_str_str, v_kb_str_tuple, v_kb_str_list, v_kb_str_dict, v_kb_tuple_bool, v_kb_tuple_int, v_kb_tuple_str, v_kb_tuple_tuple, v_kb_tuple_list, v_kb_tuple_dict, v_kb_list_bool, v_kb_list_int, v_kb_list_str, v_kb_list_tuple, v_kb_list_list, v_kb_list_dict, v_kb_dict_bool, v_kb_dict_int, v_kb_dict_str, v_kb_dict_tuple, v_kb_dict_list, v_kb_dict_dict, v_isi_non, v_isi_bl, v_isi_int, v_isi_str, v_isi_tup, v_isi_lst, v_isi_dct, v_eq_bb, v_ne_bb, v_isNone_non, v_isNone_bl, v_isNone_int, v_isNone_str, v_isNone_tup, v_isNone_lst, List.map_cons, List.map_nil, List.length_cons, List.length_nil, List.cons_append, List.nil_append, List.replicate_succ, List.replicate_zero, List.getElem?_cons_zero, List.getElem?_cons_succ, List.set_cons_zero, List.set_cons_succ, Option.map_some, Nat.reduceSub, Nat.reduceAdd, Nat.reduceLT, Nat.reduceLeDiff, bigN, dS, v_rng2 (show -1000000000 ≤ (1 : Int) ∧ (1 : Int) < 1000000000 ∧ -1000000000 ≤ (a.2 : Int) ∧ (a.2 : Int) < 1000000000 by omega), h2])
  exact ⟨y7, y8, y9, y10, h⟩
end
end Lw

set_option maxHeartbeats 1000000
namespace Lw
open PySem DL
theorem good_dT (k : Nat) (x : Nat × Nat) : Good (k + 2) (dT x) := by
  refine ⟨by simp, fun y hy => ?_⟩
  simp only [List.mem_cons, List.not_mem_nil, or_false] at hy
  rcases hy with rfl | rfl <;> exact trivial
theorem good_near {l : List (Nat × Nat)} (h : l.length ≤ 1000) : Good 6 (.lst (dTs l)) := by
  refine ⟨by simp [dTs]; omega, fun y hy => ?_⟩
  obtain ⟨x, _, rfl⟩ := List.mem_map.mp hy
  exact good_dT 3 x
theorem e_due {c : Cn} {n d : Nat} (h0 : 0 < d) (hn : n < 2 ^ 60) (hd : d < 2 ^ 60) : F_law_are_ratios_due c [dI n, dI d] = .ok (.dat (.bl true)) c := by
  have h60 := e60
  have hlen := parts_len 60 n d hd
  have hl : (parts n d).length ≤ 1000 := by omega
  have hnl : (near n d).length ≤ 1000 := by rw [near, go_len]; exact hl
  have hb : ∀ a ∈ parts n d, a < 18446744073709551616 := fun a ha => by have := parts_le d n a ha; omega
  have t1 := e_told1 (n := n) h0 hd
  have t2 := e_told2 h0 hn hd
  have sh := e_share (n := n) (d := d)
  have o1 := d_odd (c := c) (n := n) (d := d) (g := Nat.gcd n d) (l := parts n d) (nr := near n d) (x6 := .emp) (x7 := .emp) (x8 := .emp) (x9 := .emp) (x10 := .emp) (x11 := .emp) (x12 := .emp) hl
  have hdrop : (parts n d).drop 1 = parts d (n % d) := by rw [parts_pos h0]; rfl
  have hlow : ∀ a ∈ (parts n d).drop 1, 1 ≤ a := by
    rw [hdrop]
    intro a ha
    rcases Nat.eq_zero_or_pos (n % d) with z | z
    · rw [z, parts_zero] at ha; cases ha
    · exact (parts_low (n % d) d z (Nat.mod_lt _ h0)).1 a ha
  have o2 := d_low (c := c) (n := n) (d := d) (g := Nat.gcd n d) (l := parts n d) (nr := near n d) (x6 := .emp) (x7 := .emp) (x8 := .emp) (x9 := .emp) (x10 := .emp) (x11 := .emp) (x12 := .emp) hl hlow
  have o3 := d_puts (c := c) (n := n) (d := d) (g := Nat.gcd n d) (l := parts n d) (nr := near n d) (x6 := .emp) (x7 := .emp) (x8 := .emp) (x9 := .emp) (x10 := .emp) (x11 := .emp) (x12 := .emp) hl hb
  rw [puts_near h0] at o3
  obtain ⟨y6, o4⟩ := d_det (c := c) (n := n) (d := d) (g := Nat.gcd n d) (l := parts n d) (x6 := .emp) (x7 := .emp) (x8 := .emp) (x9 := .emp) (x10 := .emp) (x11 := .emp) (x12 := .emp) hn hd hnl
  have o5 := d_few (c := c) (n := n) (d := d) (g := Nat.gcd n d) (l := parts n d) (nr := near n d) (x6 := y6) (x7 := .emp) (x8 := .emp) (x9 := .emp) (x10 := .emp) (x11 := .emp) (x12 := .emp) hnl
  obtain ⟨y7, y8, y9, y10, o6⟩ := d_near (c := c) (n := n) (d := d) (g := Nat.gcd n d) (l := parts n d) (nr := near n d) (x6 := y6) (x7 := .emp) (x8 := .emp) (x9 := .emp) (x10 := .emp) (x11 := .emp) (x12 := .emp) h0 hn hd
  unfold dS at o1 o2 o3 o4 o5 o6
  have a0 : L2.atI (pd (parts n d)) 0 = some (dI (n / d)) := atI_at (k := 0) (by rw [parts_pos h0]; rfl)
  have c1 : cutD (pd (parts n d)) (some 1) none = pd ((parts n d).drop 1) := by
    have := cut_tail (pd (parts n d)) 1
    rw [show (1 : Int) = ((1 : Nat) : Int) from rfl, this]
    simp [pd]
  have hp := e_put (parts_ne (n := n) h0) hb
  have hq : dT (put (parts n d)) = .tup [dI (n / Nat.gcd n d), dI (d / Nat.gcd n d)] := by
    obtain ⟨q1, q2⟩ := put_eq (n := n) h0
    unfold dT
    rw [q1, q2]
  rw [hq] at hp
  have hg : 0 < Nat.gcd n d := Nat.gcd_pos_of_pos_right n h0
  have hg2 : Nat.gcd n d ≤ d := Nat.gcd_le_right n h0
  have f1 : (n : Int) / ((Nat.gcd n d : Nat) : Int) = ((n / Nat.gcd n d : Nat) : Int) := by simp
  have f2 : (d : Int) / ((Nat.gcd n d : Nat) : Int) = ((d / Nat.gcd n d : Nat) : Int) := by simp
  have h1 : (0 : Int) < ((Nat.gcd n d : Nat) : Int) := by omega
  have h2 := lt250 (m := ((Nat.gcd n d : Nat) : Int)) (by omega)
  have nn : neD (.lst []) (.lst []) = some (.dat (.bl false)) := neD_refl (k := 1) ⟨by simp, fun _ h => nomatch h⟩ (by decide)
  have n2 : neD (.tup [dI (n / Nat.gcd n d), dI (d / Nat.gcd n d)]) (.tup [dI (n / Nat.gcd n d), dI (d / Nat.gcd n d)]) = some (.dat (.bl false)) := neD_refl (k := 2) (good_dT 0 (_, _)) (by decide)
  have sm := e_same 6 _ (good_near hnl)
  have i1 : decide (((n / d : Nat) : Int) < 0) = false := decide_eq_false (Int.not_lt.mpr (Int.natCast_nonneg _))
  have lp : (pd (parts n d)).length = (parts n d).length := by simp [pd]
  have ln : (dTs (near n d)).length = (near n d).length := by simp [dTs]
  have r1 : -1000000000 ≤ ((parts n d).length : Int) ∧ ((parts n d).length : Int) < 1000000000 := by omega
  have r2 : -1000000000 ≤ (1 : Int) ∧ (1 : Int) < 1000000000 ∧ -1000000000 ≤ ((near n d).length : Int) ∧ ((near n d).length : Int) < 1000000000 := by omega
  have hN : (-(1 : Int)) = -1 := rfl
  unfold F_law_are_ratios_due M_law_are_ratios_due
  by_cases hone : (1 : Int) < ((parts n d).length : Int)
  · have z : 0 < n % d := by
      rcases Nat.eq_zero_or_pos (n % d) with z | z
      · exfalso
        rw [parts_pos h0, z, parts_zero] at hone
        simp at hone
      · exact z
    obtain ⟨l0, x, hx⟩ : ∃ l0 x, parts d (n % d) = l0 ++ [x] := ⟨_, _, (List.dropLast_concat_getLast (parts_ne z)).symm⟩
    have hx2 := (parts_low (n % d) d z (Nat.mod_lt _ h0)).2 x (by rw [hx]; simp)
    have al : L2.atI (pd (parts n d)) (-1) = some (dI x) := by
      rw [parts_pos h0, hx, show pd (n / d :: (l0 ++ [x])) = pd (n / d :: l0) ++ [dI x] by simp [pd]]
      exact L2.atI_last _ _
    simp only [v_bok, v_berr, v_sok, v_serr, v_nx, v_rt, v_bk, v_ct, v_er, v_ofs, v_var, v_slot_dat, v_slot_own, v_c, v_bin, v_kbin, v_op2, v_pk2, v_un, v_op1, v_pk1, v_peek_dat, v_peek_fr, v_peek_slot, v_pslot_own, v_pslot_dat, v_cnl, v_test, v_ktest, v_andT, v_kand1, v_kand0, v_orT, v_kor1, v_kor0, v_notT, v_knotT, v_and, v_kAnd1, v_kAnd0, v_or, v_kOr1, v_kOr0, v_not, v_knot, v_if, v_kif1, v_kif0, v_isNone, v_notNone, v_nil, v_cons, v_kcons, v_kcons2, v_fast, v_kfast, v_all0, v_all1, v_kall, v_kall2, v_force_dat, v_force_fr, v_force_slot, v_fslot_own, v_fslot_dat, v_tup, v_ktup, v_lst, v_klst, v_call, v_callF, v_at_ok, v_at_err, v_callB, v_vown, v_kcallB, v_vB, v_atB, v_meth, v_vM, v_methAt, v_vM2, v_vM3, v_append, v_pop, v_cb, v_kcb, v_pkL, v_peeks0, v_peeks1, v_cons22, v_isi, v_sl, v_ksl, v_ksl2, v_ksl3, v_slE_l, v_slE_t, v_slE_r, v_some, v_ksome, v_none, v_revSl, v_iter, v_it_l, v_it_r, v_it_t, v_rng1, v_rng2, v_lc, v_klc, v_klc2, v_yes, v_callV, v_vV, v_vV2, v_seq, v_skip, v_break, v_cont, v_raise, v_drop, v_kdrop, v_ret, v_ret_dat, v_ret_fr, v_ret_slot, v_rslot_own, v_rslot_dat, v_retN, v_ifS, v_kifS1, v_kifS0, v_set, v_put_dat, v_put_fr, v_put_slot, v_kput, v_asg, v_kasg, v_kasg2, v_tgN, v_tgNil, v_tgCons, v_ktg, v_tgT, v_par, v_kpar, v_kpar1, v_kpar2, v_kpar3, v_fix_dat, v_fix_fr, v_fix_slot, v_kfix, v_aug, v_aslot, v_kaug, v_kaug2, v_for, v_try, v_ktry_nx, v_ktry_rt, v_ktry_er, v_ktry2, v_ktry3, v_runF, v_endF_rt, v_endF_nx, v_endF_er, v_runB, v_endB_rt, v_endB_nx, v_add, v_sub, v_mul, v_mod, v_fdiv, v_neg, v_lt, v_cmp, v_eq, v_ne, v_absD, v_int1, v_len_l, v_len_t, v_len_r, v_list_l, v_list_t, v_rev_l, v_rev_r, v_ixt, v_ixl, v_ixr, v_kb_NoneType_bool, v_kb_NoneType_int, v_kb_NoneType_str, v_kb_NoneType_tuple, v_kb_NoneType_list, v_kb_NoneType_dict, v_kb_bool_bool, v_kb_bool_int, v_kb_bool_str, v_kb_bool_tuple, v_kb_bool_list, v_kb_bool_dict, v_kb_int_bool, v_kb_int_int, v_kb_int_str, v_kb_int_tuple, v_kb_int_list, v_kb_int_dict, v_kb_str_bool, v_kb_str_int, v_kb_str_str, v_kb_str_tuple, v_kb_str_list, v_kb_str_dict, v_kb_tuple_bool, v_kb_tuple_int, v_kb_tuple_str, v_kb_tuple_tuple, v_kb_tuple_list, v_kb_tuple_dict, v_kb_list_bool, v_kb_list_int, v_kb_list_str, v_kb_list_tuple, v_kb_list_list, v_kb_list_dict, v_kb_dict_bool, v_kb_dict_int, v_kb_dict_str, v_kb_dict_tuple, v_kb_dict_list, v_kb_dict_dict, v_isi_non, v_isi_bl, v_isi_int, v_isi_str, v_isi_tup, v_isi_lst, v_isi_dct, v_eq_bb, v_ne_bb, v_isNone_non, v_isNone_bl, v_isNone_int, v_isNone_str, v_isNone_tup, v_isNone_lst, List.map_cons, List.map_nil, List.length_cons, List.length_nil, List.cons_append, List.nil_append, List.replicate_succ, List.replicate_zero, List.getElem?_cons_zero, List.getElem?_cons_succ, List.set_cons_zero, List.set_cons_succ, Option.map_some, Nat.reduceSub, Nat.reduceAdd, Nat.reduceLT, Nat.reduceLeDiff, bigN, t1, t2, sh, o1, nn, a0, i1, c1, o2, lp, ln, decide_eq_true hone, hN, al, decide_eq_false (show ¬ (x : Int) < 2 by omega), hp, v_fdiv h1 h2, fd (Int.le_of_lt h1), f1, f2, n2, v_rng1 r1, o3, sm, Bool.not_true, Bool.not_false, v_rng2 r2, o4, o5, o6]
  · simp only [v_bok, v_berr, v_sok, v_serr, v_nx, v_rt, v_bk, v_ct, v_er, v_ofs, v_var, v_slot_dat, v_slot_own, v_c, v_bin, v_kbin, v_op2, v_pk2, v_un, v_op1, v_pk1, v_peek_dat, v_peek_fr, v_peek_slot, v_pslot_own, v_pslot_dat, v_cnl, v_test, v_ktest, v_andT, v_kand1, v_kand0, v_orT, v_kor1, v_kor0, v_notT, v_knotT, v_and, v_kAnd1, v_kAnd0, v_or, v_kOr1, v_kOr0, v_not, v_knot, v_if, v_kif1, v_kif0, v_isNone, v_notNone, v_nil, v_cons, v_kcons, v_kcons2, v_fast, v_kfast, v_all0, v_all1, v_kall, v_kall2, v_force_dat, v_force_fr, v_force_slot, v_fslot_own, v_fslot_dat, v_tup, v_ktup, v_lst, v_klst, v_call, v_callF, v_at_ok, v_at_err, v_callB, v_vown, v_kcallB, v_vB, v_atB, v_meth, v_vM, v_methAt, v_vM2, v_vM3, v_append, v_pop, v_cb, v_kcb, v_pkL, v_peeks0, v_peeks1, v_cons22, v_isi, v_sl, v_ksl, v_ksl2, v_ksl3, v_slE_l, v_slE_t, v_slE_r, v_some, v_ksome, v_none, v_revSl, v_iter, v_it_l, v_it_r, v_it_t, v_rng1, v_rng2, v_lc, v_klc, v_klc2, v_yes, v_callV, v_vV, v_vV2, v_seq, v_skip, v_break, v_cont, v_raise, v_drop, v_kdrop, v_ret, v_ret_dat, v_ret_fr, v_ret_slot, v_rslot_own, v_rslot_dat, v_retN, v_ifS, v_kifS1, v_kifS0, v_set, v_put_dat, v_put_fr, v_put_slot, v_kput, v_asg, v_kasg, v_kasg2, v_tgN, v_tgNil, v_tgCons, v_ktg, v_tgT, v_par, v_kpar, v_kpar1, v_kpar2, v_kpar3, v_fix_dat, v_fix_fr, v_fix_slot, v_kfix, v_aug, v_aslot, v_kaug, v_kaug2, v_for, v_try, v_ktry_nx, v_ktry_rt, v_ktry_er, v_ktry2, v_ktry3, v_runF, v_endF_rt, v_endF_nx, v_endF_er, v_runB, v_endB_rt, v_endB_nx, v_add, v_sub, v_mul, v_mod, v_fdiv, v_neg, v_lt, v_cmp, v_eq, v_ne, v_absD, v_int1, v_len_l, v_len_t, v_len_r, v_list_l, v_list_t, v_rev_l, v_rev_r, v_ixt, v_ixl, v_ixr, v_kb_NoneType_bool, v_kb_NoneType_int, v_kb_NoneType_str, v_kb_NoneType_tuple, v_kb_NoneType_list, v_kb_NoneType_dict, v_kb_bool_bool, v_kb_bool_int, v_kb_bool_str, v_kb_bool_tuple, v_kb_bool_list, v_kb_bool_dict, v_kb_int_bool, v_kb_int_int, v_kb_int_str, v_kb_int_tuple, v_kb_int_list, v_kb_int_dict, v_kb_str_bool, v_kb_str_int, v_kb_str_str, v_kb_str_tuple, v_kb_str_list, v_kb_str_dict, v_kb_tuple_bool, v_kb_tuple_int, v_kb_tuple_str, v_kb_tuple_tuple, v_kb_tuple_list, v_kb_tuple_dict, v_kb_list_bool, v_kb_list_int, v_kb_list_str, v_kb_list_tuple, v_kb_list_list, v_kb_list_dict, v_kb_dict_bool, v_kb_dict_int, v_kb_dict_str, v_kb_dict_tuple, v_kb_dict_list, v_kb_dict_dict, v_isi_non, v_isi_bl, v_isi_int, v_isi_str, v_isi_tup, v_isi_lst, v_isi_dct, v_eq_bb, v_ne_bb, v_isNone_non, v_isNone_bl, v_isNone_int, v_isNone_str, v_isNone_tup, v_isNone_lst, List.map_cons, List.map_nil, List.length_cons, List.length_nil, List.cons_append, List.nil_append, List.replicate_succ, List.replicate_zero, List.getElem?_cons_zero, List.getElem?_cons_succ, List.set_cons_zero, List.set_cons_succ, Option.map_some, Nat.reduceSub, Nat.reduceAdd, Nat.reduceLT, Nat.reduceLeDiff, bigN, t1, t2, sh, o1, nn, a0, i1, c1, o2, lp, ln, decide_eq_false hone, hN, hp, v_fdiv h1 h2, fd (Int.le_of_lt h1), f1, f2, n2, v_rng1 r1, o3, sm, Bool.not_true, Bool.not_false, v_rng2 r2, o4, o5, o6]
end Lw

set_option maxHeartbeats 1000000
namespace Lw
open PySem DL
abbrev li (l : List Int) : List D := l.map D.int
theorem li_app {l : List Int} {x : Int} (h : l.length ≤ 900000) : fAppend (l.map D.int) [.int x] = some (.non, (l ++ [x]).map D.int) := by
  rw [v_append (by rw [List.length_map]; show _ < 1000000; omega)]
  simp
theorem nonneg_app {l : List Int} {x : Int} (h : nonneg l) (hx : 0 ≤ x) : nonneg (l ++ [x]) := fun y hy => by
  rcases List.mem_append.mp hy with z | z
  · exact h y z
  · rw [List.mem_singleton.mp z]; exact hx
theorem pow18 : powD (.int 10) (.int 18) = some (.dat (.int 1000000000000000000)) := rfl
theorem pow12 : powD (.int 10) (.int 12) = some (.dat (.int 1000000000000)) := rfl
theorem pow6 : powD (.int 10) (.int 6) = some (.dat (.int 1000000)) := rfl
theorem fm0 {a m : Int} (h : 0 < m) : 0 ≤ a.fmod m := Int.fmod_nonneg_of_pos _ h
theorem cK {a b : Int} (h0 : -18446744073709551616 < b) (h1 : b < 18446744073709551616) : L2.CMul a b := c_r h0 h1
def drS (s : D) (l : List Int) (x2 x3 x4 x5 x6 : SV) : DS := [.dat s, .own (.lst (l.map D.int)), x2, x3, x4, x5, x6]
theorem dr_in {s : D} {l : List Int} {x2 x4 x5 x6 : SV} {k : Int} (hl : nonneg l) (hk : l.length ≤ 800000) : ∃ (l' : List Int) (k' : Int) (y5 : SV), forL (tgN 5) (mIfS (mTest (mBin gtD (mVar 3) (mC (.int 0)))) (mSeq
 (mDrop (mMeth 1 fAppend (mCons (mBin modD (mCB int1D (mCons (mVar 3) mNil)) (mC (.int 997))) mNil)))
 (mSet 3 (mBin fdivD (mVar 3) (mC (.int 997))))) mSkip) (iRow 0 (60 : Int).toNat) (drS s l x2 (.dat (.int k)) x4 x5 x6) = .nx (drS s l' x2 (.dat (.int k')) x4 y5 x6) ∧ nonneg l' ∧ l'.length ≤ l.length + 60 := by
  obtain ⟨τ, h, l', k', y5, rfl, h1, h2⟩ := for_all (mt := tgN 5) (mb := (mIfS (mTest (mBin gtD (mVar 3) (mC (.int 0)))) (mSeq
 (mDrop (mMeth 1 fAppend (mCons (mBin modD (mCB int1D (mCons (mVar 3) mNil)) (mC (.int 997))) mNil)))
 (mSet 3 (mBin fdivD (mVar 3) (mC (.int 997))))) mSkip)) (xs := iRow 0 (60 : Int).toNat) (τ := drS s l x2 (.dat (.int k)) x4 x5 x6)
    (fun i τ => ∃ (l' : List Int) (k' : Int) (y5 : SV), τ = drS s l' x2 (.dat (.int k')) x4 y5 x6 ∧ nonneg l' ∧ l'.length ≤ l.length + i) ⟨l, k, x5, rfl, hl, Nat.le_refl _⟩ (fun i x τ hx ⟨l', k', y5, eτ, g1, g2⟩ => by
      subst eτ
      have hi : i < 60 := by
        have := (List.getElem?_eq_some_iff.mp hx).1
        rw [iRow_len] at this
        exact this
      by_cases hp : 0 < k'
      · refine ⟨drS s l' x2 (.dat (.int k')) x4 (.dat x) x6, drS s (l' ++ [k'.fmod 997]) x2 (.dat (.int (k'.fdiv 997))) x4 (.dat x) x6, rfl, ?_, _, _, _, rfl, nonneg_app g1 (fm0 (by decide)), by simp; omega⟩
        simp only [v_bok, v_berr, v_sok, v_serr, v_nx, v_rt, v_bk, v_ct, v_er, v_ofs, v_var, v_slot_dat, v_slot_own, v_c, v_bin, v_kbin, v_op2, v_pk2, v_un, v_op1, v_pk1, v_peek_dat, v_peek_fr, v_peek_slot, v_pslot_own, v_pslot_dat, v_cnl, v_test, v_ktest, v_andT, v_kand1, v_kand0, v_orT, v_kor1, v_kor0, v_notT, v_knotT, v_and, v_kAnd1, v_kAnd0, v_or, v_kOr1, v_kOr0, v_not, v_knot, v_if, v_kif1, v_kif0, v_isNone, v_notNone, v_nil, v_cons, v_kcons, v_kcons2, v_fast, v_kfast, v_all0, v_all1, v_kall, v_kall2, v_force_dat, v_force_fr, v_force_slot, v_fslot_own, v_fslot_dat, v_tup, v_ktup, v_lst, v_klst, v_call, v_callF, v_at_ok, v_at_err, v_callB, v_vown, v_kcallB, v_vB, v_atB, v_meth, v_vM, v_methAt, v_vM2, v_vM3, v_append, v_pop, v_cb, v_kcb, v_pkL, v_peeks0, v_peeks1, v_cons22, v_isi, v_sl, v_ksl, v_ksl2, v_ksl3, v_slE_l, v_slE_t, v_slE_r, v_some, v_ksome, v_none, v_revSl, v_iter, v_it_l, v_it_r, v_it_t, v_rng1, v_rng2, v_lc, v_klc, v_klc2, v_yes, v_callV, v_vV, v_vV2, v_seq, v_skip, v_break, v_cont, v_raise, v_drop, v_kdrop, v_ret, v_ret_dat, v_ret_fr, v_ret_slot, v_rslot_own, v_rslot_dat, v_retN, v_ifS, v_kifS1, v_kifS0, v_set, v_put_dat, v_put_fr, v_put_slot, v_kput, v_asg, v_kasg, v_kasg2, v_tgN, v_tgNil, v_tgCons, v_ktg, v_tgT, v_par, v_kpar, v_kpar1, v_kpar2, v_kpar3, v_fix_dat, v_fix_fr, v_fix_slot, v_kfix, v_aug, v_aslot, v_kaug, v_kaug2, v_for, v_try, v_ktry_nx, v_ktry_rt, v_ktry_er, v_ktry2, v_ktry3, v_runF, v_endF_rt, v_endF_nx, v_endF_er, v_runB, v_endB_rt, v_endB_nx, v_add, v_sub, v_mul, v_mod, v_fdiv, v_neg, v_lt, v_cmp, v_eq, v_ne, v_absD, v_int1, v_len_l, v_len_t, v_len_r, v_list_l, v_list_t, v_rev_l, v_rev_r, v_ixt, v_ixl, v_ixr, v_kb_NoneType_bool, v_kb_NoneType_int, v_kb_NoneType_str, v_kb_NoneType_tuple, v_kb_NoneType_list, v_kb_NoneType_dict, v_kb_bool_bool, v_kb_bool_int, v_kb_bool_str, v_kb_bool_tuple, v_kb_bool_list, v_kb_bool_dict, v_kb_int_bool, v_kb_int_int, v_kb_int_str, v_kb_int_tuple, v_kb_int_list, v_kb_int_dict, v_kb_str_bool, v_kb_str_int, v_kb_str_str, v_kb_str_tuple, v_kb_str_list, v_kb_str_dict, v_kb_tuple_bool, v_kb_tuple_int, v_kb_tuple_str, v_kb_tuple_tuple, v_kb_tuple_list, v_kb_tuple_dict, v_kb_list_bool, v_kb_list_int, v_kb_list_str, v_kb_list_tuple, v_kb_list_list, v_kb_list_dict, v_kb_dict_bool, v_kb_dict_int, v_kb_dict_str, v_kb_dict_tuple, v_kb_dict_list, v_kb_dict_dict, v_isi_non, v_isi_bl, v_isi_int, v_isi_str, v_isi_tup, v_isi_lst, v_isi_dct, v_eq_bb, v_ne_bb, v_isNone_non, v_isNone_bl, v_isNone_int, v_isNone_str, v_isNone_tup, v_isNone_lst, List.map_cons, List.map_nil, List.length_cons, List.length_nil, List.cons_append, List.nil_append, List.replicate_succ, List.replicate_zero, List.getElem?_cons_zero, List.getElem?_cons_succ, List.set_cons_zero, List.set_cons_succ, Option.map_some, Nat.reduceSub, Nat.reduceAdd, Nat.reduceLT, Nat.reduceLeDiff, bigN, drS, decide_eq_true hp, v_mod (show (997 : Int) ≠ 0 by decide), li_app (show l'.length ≤ 900000 by omega), v_fdiv (show (0 : Int) < 997 by decide) (show (997 : Int) < 2 ^ 250 by decide)]
      · refine ⟨drS s l' x2 (.dat (.int k')) x4 (.dat x) x6, drS s l' x2 (.dat (.int k')) x4 (.dat x) x6, rfl, ?_, _, _, _, rfl, g1, by omega⟩
        simp only [v_bok, v_berr, v_sok, v_serr, v_nx, v_rt, v_bk, v_ct, v_er, v_ofs, v_var, v_slot_dat, v_slot_own, v_c, v_bin, v_kbin, v_op2, v_pk2, v_un, v_op1, v_pk1, v_peek_dat, v_peek_fr, v_peek_slot, v_pslot_own, v_pslot_dat, v_cnl, v_test, v_ktest, v_andT, v_kand1, v_kand0, v_orT, v_kor1, v_kor0, v_notT, v_knotT, v_and, v_kAnd1, v_kAnd0, v_or, v_kOr1, v_kOr0, v_not, v_knot, v_if, v_kif1, v_kif0, v_isNone, v_notNone, v_nil, v_cons, v_kcons, v_kcons2, v_fast, v_kfast, v_all0, v_all1, v_kall, v_kall2, v_force_dat, v_force_fr, v_force_slot, v_fslot_own, v_fslot_dat, v_tup, v_ktup, v_lst, v_klst, v_call, v_callF, v_at_ok, v_at_err, v_callB, v_vown, v_kcallB, v_vB, v_atB, v_meth, v_vM, v_methAt, v_vM2, v_vM3, v_append, v_pop, v_cb, v_kcb, v_pkL, v_peeks0, v_peeks1, v_cons22, v_isi, v_sl, v_ksl, v_ksl2, v_ksl3, v_slE_l, v_slE_t, v_slE_r, v_some, v_ksome, v_none, v_revSl, v_iter, v_it_l, v_it_r, v_it_t, v_rng1, v_rng2, v_lc, v_klc, v_klc2, v_yes, v_callV, v_vV, v_vV2, v_seq, v_skip, v_break, v_cont, v_raise, v_drop, v_kdrop, v_ret, v_ret_dat, v_ret_fr, v_ret_slot, v_rslot_own, v_rslot_dat, v_retN, v_ifS, v_kifS1, v_kifS0, v_set, v_put_dat, v_put_fr, v_put_slot, v_kput, v_asg, v_kasg, v_kasg2, v_tgN, v_tgNil, v_tgCons, v_ktg, v_tgT, v_par, v_kpar, v_kpar1, v_kpar2, v_kpar3, v_fix_dat, v_fix_fr, v_fix_slot, v_kfix, v_aug, v_aslot, v_kaug, v_kaug2, v_for, v_try, v_ktry_nx, v_ktry_rt, v_ktry_er, v_ktry2, v_ktry3, v_runF, v_endF_rt, v_endF_nx, v_endF_er, v_runB, v_endB_rt, v_endB_nx, v_add, v_sub, v_mul, v_mod, v_fdiv, v_neg, v_lt, v_cmp, v_eq, v_ne, v_absD, v_int1, v_len_l, v_len_t, v_len_r, v_list_l, v_list_t, v_rev_l, v_rev_r, v_ixt, v_ixl, v_ixr, v_kb_NoneType_bool, v_kb_NoneType_int, v_kb_NoneType_str, v_kb_NoneType_tuple, v_kb_NoneType_list, v_kb_NoneType_dict, v_kb_bool_bool, v_kb_bool_int, v_kb_bool_str, v_kb_bool_tuple, v_kb_bool_list, v_kb_bool_dict, v_kb_int_bool, v_kb_int_int, v_kb_int_str, v_kb_int_tuple, v_kb_int_list, v_kb_int_dict, v_kb_str_bool, v_kb_str_int, v_kb_str_str, v_kb_str_tuple, v_kb_str_list, v_kb_str_dict, v_kb_tuple_bool, v_kb_tuple_int, v_kb_tuple_str, v_kb_tuple_tuple, v_kb_tuple_list, v_kb_tuple_dict, v_kb_list_bool, v_kb_list_int, v_kb_list_str, v_kb_list_tuple, v_kb_list_list, v_kb_list_dict, v_kb_dict_bool, v_kb_dict_int, v_kb_dict_str, v_kb_dict_tuple, v_kb_dict_list, v_kb_dict_dict, v_isi_non, v_isi_bl, v_isi_int, v_isi_str, v_isi_tup, v_isi_lst, v_isi_dct, v_eq_bb, v_ne_bb, v_isNone_non, v_isNone_bl, v_isNone_int, v_isNone_str, v_isNone_tup, v_isNone_lst, List.map_cons, List.map_nil, List.length_cons, List.length_nil, List.cons_append, List.nil_append, List.replicate_succ, List.replicate_zero, List.getElem?_cons_zero, List.getElem?_cons_succ, List.set_cons_zero, List.set_cons_succ, Option.map_some, Nat.reduceSub, Nat.reduceAdd, Nat.reduceLT, Nat.reduceLeDiff, bigN, drS, decide_eq_false hp])
  refine ⟨l', k', y5, h, h1, ?_⟩
  rw [iRow_len] at h2
  exact h2
theorem dr_out {ns : List Int} {x2 x3 x4 x5 x6 : SV} (hn : ns.length ≤ 63) : ∃ (l' : List Int) (y2 y3 y4 y5 : SV), forL (tgN 2) (mSeq
 (mSet 3 (mCB absD (mCons (mVar 2) mNil)))
 (mSeq
 (mIfS (mTest (mBin ltD (mVar 3) (mBin powD (mC (.int 10)) (mC (.int 18))))) (mSeq
 (mSet 4 (mBin modD (mCB int1D (mCons (mBin addD (mBin mulD (mVar 3) (mC (.int 48271))) (mC (.int 11))) mNil)) (mC (.int 2147483647))))
 (mSeq
 (mDrop (mMeth 1 fAppend (mCons (mBin modD (mCB int1D (mCons (mBin addD (mBin mulD (mVar 4) (mC (.int 69621))) (mVar 3)) mNil)) (mC (.int 2147483629))) mNil)))
 (mSeq
 (mDrop (mMeth 1 fAppend (mCons (mBin modD (mCB int1D (mCons (mBin addD (mVar 4) (mBin fdivD (mVar 3) (mC (.int 7)))) mNil)) (mC (.int 1000003))) mNil)))
 (mSet 3 (mC (.int 0)))))) mSkip)
 (mFor (mFast (mCons (mC (.int 60)) mNil) rng1) (tgN 5) (mIfS (mTest (mBin gtD (mVar 3) (mC (.int 0)))) (mSeq
 (mDrop (mMeth 1 fAppend (mCons (mBin modD (mCB int1D (mCons (mVar 3) mNil)) (mC (.int 997))) mNil)))
 (mSet 3 (mBin fdivD (mVar 3) (mC (.int 997))))) mSkip)))) (ns.map D.int) (drS (.rol (ns.map D.int)) [] x2 x3 x4 x5 x6) = .nx (drS (.rol (ns.map D.int)) l' y2 y3 y4 y5 x6) ∧ nonneg l' ∧ l'.length ≤ 4000 := by
  obtain ⟨τ, h, l', y2, y3, y4, y5, rfl, h1, h2⟩ := for_all (mt := tgN 2) (mb := (mSeq
 (mSet 3 (mCB absD (mCons (mVar 2) mNil)))
 (mSeq
 (mIfS (mTest (mBin ltD (mVar 3) (mBin powD (mC (.int 10)) (mC (.int 18))))) (mSeq
 (mSet 4 (mBin modD (mCB int1D (mCons (mBin addD (mBin mulD (mVar 3) (mC (.int 48271))) (mC (.int 11))) mNil)) (mC (.int 2147483647))))
 (mSeq
 (mDrop (mMeth 1 fAppend (mCons (mBin modD (mCB int1D (mCons (mBin addD (mBin mulD (mVar 4) (mC (.int 69621))) (mVar 3)) mNil)) (mC (.int 2147483629))) mNil)))
 (mSeq
 (mDrop (mMeth 1 fAppend (mCons (mBin modD (mCB int1D (mCons (mBin addD (mVar 4) (mBin fdivD (mVar 3) (mC (.int 7)))) mNil)) (mC (.int 1000003))) mNil)))
 (mSet 3 (mC (.int 0)))))) mSkip)
 (mFor (mFast (mCons (mC (.int 60)) mNil) rng1) (tgN 5) (mIfS (mTest (mBin gtD (mVar 3) (mC (.int 0)))) (mSeq
 (mDrop (mMeth 1 fAppend (mCons (mBin modD (mCB int1D (mCons (mVar 3) mNil)) (mC (.int 997))) mNil)))
 (mSet 3 (mBin fdivD (mVar 3) (mC (.int 997))))) mSkip))))) (xs := ns.map D.int) (τ := drS (.rol (ns.map D.int)) [] x2 x3 x4 x5 x6)
    (fun i τ => ∃ (l' : List Int) (y2 y3 y4 y5 : SV), τ = drS (.rol (ns.map D.int)) l' y2 y3 y4 y5 x6 ∧ nonneg l' ∧ l'.length ≤ 62 * i) ⟨[], x2, x3, x4, x5, rfl, (fun _ h => nomatch h), Nat.le_refl _⟩ (fun i x τ hx ⟨l', y2, y3, y4, y5, eτ, g1, g2⟩ => by
      subst eτ
      have hi : i < ns.length := by
        have := (List.getElem?_eq_some_iff.mp hx).1
        rwa [List.length_map] at this
      obtain ⟨c, _, rfl⟩ := List.mem_map.mp (List.mem_of_getElem? hx)
      have r60 : -1000000000 ≤ (60 : Int) ∧ (60 : Int) < 1000000000 := by decide
      have k1 : ∀ a : Int, L2.CMul a 48271 := fun a => cK (by decide) (by decide)
      have k2 : ∀ a : Int, L2.CMul a 69621 := fun a => cK (by decide) (by decide)
      by_cases hs : (if c < 0 then -c else c) < 1000000000000000000
      · generalize hf : ((if c < 0 then -c else c) * 48271 + 11).fmod 2147483647 = first
        obtain ⟨l2, k', z5, hin, q1, q2⟩ := dr_in (s := .rol (ns.map D.int)) (l := l' ++ [(first * 69621 + (if c < 0 then -c else c)).fmod 2147483629] ++ [(first + (if c < 0 then -c else c).fdiv 7).fmod 1000003]) (x2 := .dat (.int c)) (x4 := .dat (.int first)) (x5 := y5) (x6 := x6) (k := 0)
          (nonneg_app (nonneg_app g1 (fm0 (by decide))) (fm0 (by decide))) (by simp; omega)
        refine ⟨drS (.rol (ns.map D.int)) l' (.dat (.int c)) y3 y4 y5 x6, _, rfl, ?_, l2, .dat (.int c), .dat (.int k'), .dat (.int first), z5, rfl, q1, by simp at q2; omega⟩
        unfold drS at hin
        simp only [v_bok, v_berr, v_sok, v_serr, v_nx, v_rt, v_bk, v_ct, v_er, v_ofs, v_var, v_slot_dat, v_slot_own, v_c, v_bin, v_kbin, v_op2, v_pk2, v_un, v_op1, v_pk1, v_peek_dat, v_peek_fr, v_peek_slot, v_pslot_own, v_pslot_dat, v_cnl, v_test, v_ktest, v_andT, v_kand1, v_kand0, v_orT, v_kor1, v_kor0, v_notT, v_knotT, v_and, v_kAnd1, v_kAnd0, v_or, v_kOr1, v_kOr0, v_not, v_knot, v_if, v_kif1, v_kif0, v_isNone, v_notNone, v_nil, v_cons, v_kcons, v_kcons2, v_fast, v_kfast, v_all0, v_all1, v_kall, v_kall2, v_force_dat, v_force_fr, v_force_slot, v_fslot_own, v_fslot_dat, v_tup, v_ktup, v_lst, v_klst, v_call, v_callF, v_at_ok, v_at_err, v_callB, v_vown, v_kcallB, v_vB, v_atB, v_meth, v_vM, v_methAt, v_vM2, v_vM3, v_append, v_pop, v_cb, v_kcb, v_pkL, v_peeks0, v_peeks1, v_cons22, v_isi, v_sl, v_ksl, v_ksl2, v_ksl3, v_slE_l, v_slE_t, v_slE_r, v_some, v_ksome, v_none, v_revSl, v_iter, v_it_l, v_it_r, v_it_t, v_rng1, v_rng2, v_lc, v_klc, v_klc2, v_yes, v_callV, v_vV, v_vV2, v_seq, v_skip, v_break, v_cont, v_raise, v_drop, v_kdrop, v_ret, v_ret_dat, v_ret_fr, v_ret_slot, v_rslot_own, v_rslot_dat, v_retN, v_ifS, v_kifS1, v_kifS0, v_set, v_put_dat, v_put_fr, v_put_slot, v_kput, v_asg, v_kasg, v_kasg2, v_tgN, v_tgNil, v_tgCons, v_ktg, v_tgT, v_par, v_kpar, v_kpar1, v_kpar2, v_kpar3, v_fix_dat, v_fix_fr, v_fix_slot, v_kfix, v_aug, v_aslot, v_kaug, v_kaug2, v_for, v_try, v_ktry_nx, v_ktry_rt, v_ktry_er, v_ktry2, v_ktry3, v_runF, v_endF_rt, v_endF_nx, v_endF_er, v_runB, v_endB_rt, v_endB_nx, v_add, v_sub, v_mul, v_mod, v_fdiv, v_neg, v_lt, v_cmp, v_eq, v_ne, v_absD, v_int1, v_len_l, v_len_t, v_len_r, v_list_l, v_list_t, v_rev_l, v_rev_r, v_ixt, v_ixl, v_ixr, v_kb_NoneType_bool, v_kb_NoneType_int, v_kb_NoneType_str, v_kb_NoneType_tuple, v_kb_NoneType_list, v_kb_NoneType_dict, v_kb_bool_bool, v_kb_bool_int, v_kb_bool_str, v_kb_bool_tuple, v_kb_bool_list, v_kb_bool_dict, v_kb_int_bool, v_kb_int_int, v_kb_int_str, v_kb_int_tuple, v_kb_int_list, v_kb_int_dict, v_kb_str_bool, v_kb_str_int, v_kb_str_str, v_kb_str_tuple, v_kb_str_list, v_kb_str_dict, v_kb_tuple_bool, v_kb_tuple_int, v_kb_tuple_str, v_kb_tuple_tuple, v_kb_tuple_list, v_kb_tuple_dict, v_kb_list_bool, v_kb_list_int, v_kb_list_str, v_kb_list_tuple, v_kb_list_list, v_kb_list_dict, v_kb_dict_bool, v_kb_dict_int, v_kb_dict_str, v_kb_dict_tuple, v_kb_dict_list, v_kb_dict_dict, v_isi_non, v_isi_bl, v_isi_int, v_isi_str, v_isi_tup, v_isi_lst, v_isi_dct, v_eq_bb, v_ne_bb, v_isNone_non, v_isNone_bl, v_isNone_int, v_isNone_str, v_isNone_tup, v_isNone_lst, List.map_cons, List.map_nil, List.length_cons, List.length_nil, List.cons_append, List.nil_append, List.replicate_succ, List.replicate_zero, List.getElem?_cons_zero, List.getElem?_cons_succ, List.set_cons_zero, List.set_cons_succ, Option.map_some, Nat.reduceSub, Nat.reduceAdd, Nat.reduceLT, Nat.reduceLeDiff, bigN, drS, pow18, decide_eq_true hs, v_mul (k1 _), v_mul (k2 _), v_mod (show (2147483647 : Int) ≠ 0 by decide), v_mod (show (2147483629 : Int) ≠ 0 by decide), v_mod (show (1000003 : Int) ≠ 0 by decide), hf, li_app (show l'.length ≤ 900000 by omega), li_app (show (l' ++ [(first * 69621 + (if c < 0 then -c else c)).fmod 2147483629]).length ≤ 900000 by simp; omega), v_fdiv (show (0 : Int) < 7 by decide) (show (7 : Int) < 2 ^ 250 by decide), v_rng1 r60, hin]
      · obtain ⟨l2, k', z5, hin, q1, q2⟩ := dr_in (s := .rol (ns.map D.int)) (l := l') (x2 := .dat (.int c)) (x4 := y4) (x5 := y5) (x6 := x6) (k := (if c < 0 then -c else c)) g1 (by omega)
        refine ⟨drS (.rol (ns.map D.int)) l' (.dat (.int c)) y3 y4 y5 x6, _, rfl, ?_, l2, .dat (.int c), .dat (.int k'), y4, z5, rfl, q1, by omega⟩
        unfold drS at hin
        simp only [v_bok, v_berr, v_sok, v_serr, v_nx, v_rt, v_bk, v_ct, v_er, v_ofs, v_var, v_slot_dat, v_slot_own, v_c, v_bin, v_kbin, v_op2, v_pk2, v_un, v_op1, v_pk1, v_peek_dat, v_peek_fr, v_peek_slot, v_pslot_own, v_pslot_dat, v_cnl, v_test, v_ktest, v_andT, v_kand1, v_kand0, v_orT, v_kor1, v_kor0, v_notT, v_knotT, v_and, v_kAnd1, v_kAnd0, v_or, v_kOr1, v_kOr0, v_not, v_knot, v_if, v_kif1, v_kif0, v_isNone, v_notNone, v_nil, v_cons, v_kcons, v_kcons2, v_fast, v_kfast, v_all0, v_all1, v_kall, v_kall2, v_force_dat, v_force_fr, v_force_slot, v_fslot_own, v_fslot_dat, v_tup, v_ktup, v_lst, v_klst, v_call, v_callF, v_at_ok, v_at_err, v_callB, v_vown, v_kcallB, v_vB, v_atB, v_meth, v_vM, v_methAt, v_vM2, v_vM3, v_append, v_pop, v_cb, v_kcb, v_pkL, v_peeks0, v_peeks1, v_cons22, v_isi, v_sl, v_ksl, v_ksl2, v_ksl3, v_slE_l, v_slE_t, v_slE_r, v_some, v_ksome, v_none, v_revSl, v_iter, v_it_l, v_it_r, v_it_t, v_rng1, v_rng2, v_lc, v_klc, v_klc2, v_yes, v_callV, v_vV, v_vV2, v_seq, v_skip, v_break, v_cont, v_raise, v_drop, v_kdrop, v_ret, v_ret_dat, v_ret_fr, v_ret_slot, v_rslot_own, v_rslot_dat, v_retN, v_ifS, v_kifS1, v_kifS0, v_set, v_put_dat, v_put_fr, v_put_slot, v_kput, v_asg, v_kasg, v_kasg2, v_tgN, v_tgNil, v_tgCons, v_ktg, v_tgT, v_par, v_kpar, v_kpar1, v_kpar2, v_kpar3, v_fix_dat, v_fix_fr, v_fix_slot, v_kfix, v_aug, v_aslot, v_kaug, v_kaug2, v_for, v_try, v_ktry_nx, v_ktry_rt, v_ktry_er, v_ktry2, v_ktry3, v_runF, v_endF_rt, v_endF_nx, v_endF_er, v_runB, v_endB_rt, v_endB_nx, v_add, v_sub, v_mul, v_mod, v_fdiv, v_neg, v_lt, v_cmp, v_eq, v_ne, v_absD, v_int1, v_len_l, v_len_t, v_len_r, v_list_l, v_list_t, v_rev_l, v_rev_r, v_ixt, v_ixl, v_ixr, v_kb_NoneType_bool, v_kb_NoneType_int, v_kb_NoneType_str, v_kb_NoneType_tuple, v_kb_NoneType_list, v_kb_NoneType_dict, v_kb_bool_bool, v_kb_bool_int, v_kb_bool_str, v_kb_bool_tuple, v_kb_bool_list, v_kb_bool_dict, v_kb_int_bool, v_kb_int_int, v_kb_int_str, v_kb_int_tuple, v_kb_int_list, v_kb_int_dict, v_kb_str_bool, v_kb_str_int, v_kb_str_str, v_kb_str_tuple, v_kb_str_list, v_kb_str_dict, v_kb_tuple_bool, v_kb_tuple_int, v_kb_tuple_str, v_kb_tuple_tuple, v_kb_tuple_list, v_kb_tuple_dict, v_kb_list_bool, v_kb_list_int, v_kb_list_str, v_kb_list_tuple, v_kb_list_list, v_kb_list_dict, v_kb_dict_bool, v_kb_dict_int, v_kb_dict_str, v_kb_dict_tuple, v_kb_dict_list, v_kb_dict_dict, v_isi_non, v_isi_bl, v_isi_int, v_isi_str, v_isi_tup, v_isi_lst, v_isi_dct, v_eq_bb, v_ne_bb, v_isNone_non, v_isNone_bl, v_isNone_int, v_isNone_str, v_isNone_tup, v_isNone_lst, List.map_cons, List.map_nil, List.length_cons, List.length_nil, List.cons_append, List.nil_append, List.replicate_succ, List.replicate_zero, List.getElem?_cons_zero, List.getElem?_cons_succ, List.set_cons_zero, List.set_cons_succ, Option.map_some, Nat.reduceSub, Nat.reduceAdd, Nat.reduceLT, Nat.reduceLeDiff, bigN, drS, pow18, decide_eq_false hs, v_rng1 r60, hin])
  refine ⟨l', y2, y3, y4, y5, h, h1, ?_⟩
  rw [List.length_map] at h2
  omega
theorem dr_seed {s : D} {l : List Int} {x2 x3 x4 x5 : SV} {k : Int} (hl : nonneg l) (hk : l.length ≤ 800000) : ∃ (l' : List Int) (k' : Int) (y5 : SV), forL (tgN 5) (mSeq
 (mSet 6 (mBin modD (mCB int1D (mCons (mBin addD (mBin mulD (mVar 6) (mC (.int 48271))) (mC (.int 69621))) mNil)) (mC (.int 2147483647))))
 (mDrop (mMeth 1 fAppend (mCons (mBin fdivD (mVar 6) (mC (.int 5))) mNil)))) (iRow 0 (2000 : Int).toNat) (drS s l x2 x3 x4 x5 (.dat (.int k))) = .nx (drS s l' x2 x3 x4 y5 (.dat (.int k'))) ∧ nonneg l' := by
  obtain ⟨τ, h, l', k', y5, rfl, h1, h2⟩ := for_all (mt := tgN 5) (mb := (mSeq
 (mSet 6 (mBin modD (mCB int1D (mCons (mBin addD (mBin mulD (mVar 6) (mC (.int 48271))) (mC (.int 69621))) mNil)) (mC (.int 2147483647))))
 (mDrop (mMeth 1 fAppend (mCons (mBin fdivD (mVar 6) (mC (.int 5))) mNil))))) (xs := iRow 0 (2000 : Int).toNat) (τ := drS s l x2 x3 x4 x5 (.dat (.int k)))
    (fun i τ => ∃ (l' : List Int) (k' : Int) (y5 : SV), τ = drS s l' x2 x3 x4 y5 (.dat (.int k')) ∧ nonneg l' ∧ l'.length ≤ l.length + i) ⟨l, k, x5, rfl, hl, Nat.le_refl _⟩ (fun i x τ hx ⟨l', k', y5, eτ, g1, g2⟩ => by
      subst eτ
      have hi : i < 2000 := by
        have := (List.getElem?_eq_some_iff.mp hx).1
        rw [iRow_len] at this
        exact this
      have k1 : ∀ a : Int, L2.CMul a 48271 := fun a => cK (by decide) (by decide)
      have p0 : 0 ≤ (k' * 48271 + 69621).fmod 2147483647 := fm0 (by decide)
      have p1 : 0 ≤ ((k' * 48271 + 69621).fmod 2147483647).fdiv 5 := by rw [fd (by decide)]; exact Int.ediv_nonneg p0 (by decide)
      refine ⟨drS s l' x2 x3 x4 (.dat x) (.dat (.int k')), drS s (l' ++ [((k' * 48271 + 69621).fmod 2147483647).fdiv 5]) x2 x3 x4 (.dat x) (.dat (.int ((k' * 48271 + 69621).fmod 2147483647))), rfl, ?_, _, _, _, rfl, nonneg_app g1 p1, by simp; omega⟩
      simp only [v_bok, v_berr, v_sok, v_serr, v_nx, v_rt, v_bk, v_ct, v_er, v_ofs, v_var, v_slot_dat, v_slot_own, v_c, v_bin, v_kbin, v_op2, v_pk2, v_un, v_op1, v_pk1, v_peek_dat, v_peek_fr, v_peek_slot, v_pslot_own, v_pslot_dat, v_cnl, v_test, v_ktest, v_andT, v_kand1, v_kand0, v_orT, v_kor1, v_kor0, v_notT, v_knotT, v_and, v_kAnd1, v_kAnd0, v_or, v_kOr1, v_kOr0, v_not, v_knot, v_if, v_kif1, v_kif0, v_isNone, v_notNone, v_nil, v_cons, v_kcons, v_kcons2, v_fast, v_kfast, v_all0, v_all1, v_kall, v_kall2, v_force_dat, v_force_fr, v_force_slot, v_fslot_own, v_fslot_dat, v_tup, v_ktup, v_lst, v_klst, v_call, v_callF, v_at_ok, v_at_err, v_callB, v_vown, v_kcallB, v_vB, v_atB, v_meth, v_vM, v_methAt, v_vM2, v_vM3, v_append, v_pop, v_cb, v_kcb, v_pkL, v_peeks0, v_peeks1, v_cons22, v_isi, v_sl, v_ksl, v_ksl2, v_ksl3, v_slE_l, v_slE_t, v_slE_r, v_some, v_ksome, v_none, v_revSl, v_iter, v_it_l, v_it_r, v_it_t, v_rng1, v_rng2, v_lc, v_klc, v_klc2, v_yes, v_callV, v_vV, v_vV2, v_seq, v_skip, v_break, v_cont, v_raise, v_drop, v_kdrop, v_ret, v_ret_dat, v_ret_fr, v_ret_slot, v_rslot_own, v_rslot_dat, v_retN, v_ifS, v_kifS1, v_kifS0, v_set, v_put_dat, v_put_fr, v_put_slot, v_kput, v_asg, v_kasg, v_kasg2, v_tgN, v_tgNil, v_tgCons, v_ktg, v_tgT, v_par, v_kpar, v_kpar1, v_kpar2, v_kpar3, v_fix_dat, v_fix_fr, v_fix_slot, v_kfix, v_aug, v_aslot, v_kaug, v_kaug2, v_for, v_try, v_ktry_nx, v_ktry_rt, v_ktry_er, v_ktry2, v_ktry3, v_runF, v_endF_rt, v_endF_nx, v_endF_er, v_runB, v_endB_rt, v_endB_nx, v_add, v_sub, v_mul, v_mod, v_fdiv, v_neg, v_lt, v_cmp, v_eq, v_ne, v_absD, v_int1, v_len_l, v_len_t, v_len_r, v_list_l, v_list_t, v_rev_l, v_rev_r, v_ixt, v_ixl, v_ixr, v_kb_NoneType_bool, v_kb_NoneType_int, v_kb_NoneType_str, v_kb_NoneType_tuple, v_kb_NoneType_list, v_kb_NoneType_dict, v_kb_bool_bool, v_kb_bool_int, v_kb_bool_str, v_kb_bool_tuple, v_kb_bool_list, v_kb_bool_dict, v_kb_int_bool, v_kb_int_int, v_kb_int_str, v_kb_int_tuple, v_kb_int_list, v_kb_int_dict, v_kb_str_bool, v_kb_str_int, v_kb_str_str, v_kb_str_tuple, v_kb_str_list, v_kb_str_dict, v_kb_tuple_bool, v_kb_tuple_int, v_kb_tuple_str, v_kb_tuple_tuple, v_kb_tuple_list, v_kb_tuple_dict, v_kb_list_bool, v_kb_list_int, v_kb_list_str, v_kb_list_tuple, v_kb_list_list, v_kb_list_dict, v_kb_dict_bool, v_kb_dict_int, v_kb_dict_str, v_kb_dict_tuple, v_kb_dict_list, v_kb_dict_dict, v_isi_non, v_isi_bl, v_isi_int, v_isi_str, v_isi_tup, v_isi_lst, v_isi_dct, v_eq_bb, v_ne_bb, v_isNone_non, v_isNone_bl, v_isNone_int, v_isNone_str, v_isNone_tup, v_isNone_lst, List.map_cons, List.map_nil, List.length_cons, List.length_nil, List.cons_append, List.nil_append, List.replicate_succ, List.replicate_zero, List.getElem?_cons_zero, List.getElem?_cons_succ, List.set_cons_zero, List.set_cons_succ, Option.map_some, Nat.reduceSub, Nat.reduceAdd, Nat.reduceLT, Nat.reduceLeDiff, bigN, drS, v_mul (k1 _), v_mod (show (2147483647 : Int) ≠ 0 by decide), li_app (show l'.length ≤ 900000 by omega), v_fdiv (show (0 : Int) < 5 by decide) (show (5 : Int) < 2 ^ 250 by decide)])
  exact ⟨l', k', y5, h, h1⟩
theorem e_draws {ns : List Int} (hn : ns.length ≤ 63) : ∃ l : List Int, nonneg l ∧ F_law_draws [.rol (ns.map D.int)] = .ok (.fr (.lst (l.map D.int))) := by
  obtain ⟨l1, y2, y3, y4, y5, h1, n1, b1⟩ := dr_out (x2 := .emp) (x3 := .emp) (x4 := .emp) (x5 := .emp) (x6 := .emp) hn
  have seed : ∃ k : Int, ∀ τ' : DS, (mSeq
 (mSet 6 (mC (.int 1)))
 (mIfS (mTest (mBin gtD (mCB lenD (mCons (mVar 0) mNil)) (mC (.int 0)))) (mSet 6 (mBin addD (mC (.int 1)) (mCB absD (mCons (mBin ixD (mVar 0) (mC (.int 0))) mNil)))) mSkip)) (drS (.rol (ns.map D.int)) l1 y2 y3 y4 y5 .emp) = .nx (drS (.rol (ns.map D.int)) l1 y2 y3 y4 y5 (.dat (.int k))) := by
    cases ns with
    | nil =>
      refine ⟨1, fun _ => ?_⟩
      have e : decide ((0 : Int) < (([] : List Int).map D.int).length) = false := rfl
      simp only [v_bok, v_berr, v_sok, v_serr, v_nx, v_rt, v_bk, v_ct, v_er, v_ofs, v_var, v_slot_dat, v_slot_own, v_c, v_bin, v_kbin, v_op2, v_pk2, v_un, v_op1, v_pk1, v_peek_dat, v_peek_fr, v_peek_slot, v_pslot_own, v_pslot_dat, v_cnl, v_test, v_ktest, v_andT, v_kand1, v_kand0, v_orT, v_kor1, v_kor0, v_notT, v_knotT, v_and, v_kAnd1, v_kAnd0, v_or, v_kOr1, v_kOr0, v_not, v_knot, v_if, v_kif1, v_kif0, v_isNone, v_notNone, v_nil, v_cons, v_kcons, v_kcons2, v_fast, v_kfast, v_all0, v_all1, v_kall, v_kall2, v_force_dat, v_force_fr, v_force_slot, v_fslot_own, v_fslot_dat, v_tup, v_ktup, v_lst, v_klst, v_call, v_callF, v_at_ok, v_at_err, v_callB, v_vown, v_kcallB, v_vB, v_atB, v_meth, v_vM, v_methAt, v_vM2, v_vM3, v_append, v_pop, v_cb, v_kcb, v_pkL, v_peeks0, v_peeks1, v_cons22, v_isi, v_sl, v_ksl, v_ksl2, v_ksl3, v_slE_l, v_slE_t, v_slE_r, v_some, v_ksome, v_none, v_revSl, v_iter, v_it_l, v_it_r, v_it_t, v_rng1, v_rng2, v_lc, v_klc, v_klc2, v_yes, v_callV, v_vV, v_vV2, v_seq, v_skip, v_break, v_cont, v_raise, v_drop, v_kdrop, v_ret, v_ret_dat, v_ret_fr, v_ret_slot, v_rslot_own, v_rslot_dat, v_retN, v_ifS, v_kifS1, v_kifS0, v_set, v_put_dat, v_put_fr, v_put_slot, v_kput, v_asg, v_kasg, v_kasg2, v_tgN, v_tgNil, v_tgCons, v_ktg, v_tgT, v_par, v_kpar, v_kpar1, v_kpar2, v_kpar3, v_fix_dat, v_fix_fr, v_fix_slot, v_kfix, v_aug, v_aslot, v_kaug, v_kaug2, v_for, v_try, v_ktry_nx, v_ktry_rt, v_ktry_er, v_ktry2, v_ktry3, v_runF, v_endF_rt, v_endF_nx, v_endF_er, v_runB, v_endB_rt, v_endB_nx, v_add, v_sub, v_mul, v_mod, v_fdiv, v_neg, v_lt, v_cmp, v_eq, v_ne, v_absD, v_int1, v_len_l, v_len_t, v_len_r, v_list_l, v_list_t, v_rev_l, v_rev_r, v_ixt, v_ixl, v_ixr, v_kb_NoneType_bool, v_kb_NoneType_int, v_kb_NoneType_str, v_kb_NoneType_tuple, v_kb_NoneType_list, v_kb_NoneType_dict, v_kb_bool_bool, v_kb_bool_int, v_kb_bool_str, v_kb_bool_tuple, v_kb_bool_list, v_kb_bool_dict, v_kb_int_bool, v_kb_int_int, v_kb_int_str, v_kb_int_tuple, v_kb_int_list, v_kb_int_dict, v_kb_str_bool, v_kb_str_int, v_kb_str_str, v_kb_str_tuple, v_kb_str_list, v_kb_str_dict, v_kb_tuple_bool, v_kb_tuple_int, v_kb_tuple_str, v_kb_tuple_tuple, v_kb_tuple_list, v_kb_tuple_dict, v_kb_list_bool, v_kb_list_int, v_kb_list_str, v_kb_list_tuple, v_kb_list_list, v_kb_list_dict, v_kb_dict_bool, v_kb_dict_int, v_kb_dict_str, v_kb_dict_tuple, v_kb_dict_list, v_kb_dict_dict, v_isi_non, v_isi_bl, v_isi_int, v_isi_str, v_isi_tup, v_isi_lst, v_isi_dct, v_eq_bb, v_ne_bb, v_isNone_non, v_isNone_bl, v_isNone_int, v_isNone_str, v_isNone_tup, v_isNone_lst, List.map_cons, List.map_nil, List.length_cons, List.length_nil, List.cons_append, List.nil_append, List.replicate_succ, List.replicate_zero, List.getElem?_cons_zero, List.getElem?_cons_succ, List.set_cons_zero, List.set_cons_succ, Option.map_some, Nat.reduceSub, Nat.reduceAdd, Nat.reduceLT, Nat.reduceLeDiff, bigN, drS]
      rfl
    | cons a r =>
      refine ⟨1 + (if a < 0 then -a else a), fun _ => ?_⟩
      have e : decide ((0 : Int) < ((r.map D.int).length + 1 : Nat)) = true := decide_eq_true (by omega)
      have ha : L2.atI (D.int a :: r.map D.int) 0 = some (.int a) := atI_at (k := 0) rfl
      simp only [v_bok, v_berr, v_sok, v_serr, v_nx, v_rt, v_bk, v_ct, v_er, v_ofs, v_var, v_slot_dat, v_slot_own, v_c, v_bin, v_kbin, v_op2, v_pk2, v_un, v_op1, v_pk1, v_peek_dat, v_peek_fr, v_peek_slot, v_pslot_own, v_pslot_dat, v_cnl, v_test, v_ktest, v_andT, v_kand1, v_kand0, v_orT, v_kor1, v_kor0, v_notT, v_knotT, v_and, v_kAnd1, v_kAnd0, v_or, v_kOr1, v_kOr0, v_not, v_knot, v_if, v_kif1, v_kif0, v_isNone, v_notNone, v_nil, v_cons, v_kcons, v_kcons2, v_fast, v_kfast, v_all0, v_all1, v_kall, v_kall2, v_force_dat, v_force_fr, v_force_slot, v_fslot_own, v_fslot_dat, v_tup, v_ktup, v_lst, v_klst, v_call, v_callF, v_at_ok, v_at_err, v_callB, v_vown, v_kcallB, v_vB, v_atB, v_meth, v_vM, v_methAt, v_vM2, v_vM3, v_append, v_pop, v_cb, v_kcb, v_pkL, v_peeks0, v_peeks1, v_cons22, v_isi, v_sl, v_ksl, v_ksl2, v_ksl3, v_slE_l, v_slE_t, v_slE_r, v_some, v_ksome, v_none, v_revSl, v_iter, v_it_l, v_it_r, v_it_t, v_rng1, v_rng2, v_lc, v_klc, v_klc2, v_yes, v_callV, v_vV, v_vV2, v_seq, v_skip, v_break, v_cont, v_raise, v_drop, v_kdrop, v_ret, v_ret_dat, v_ret_fr, v_ret_slot, v_rslot_own, v_rslot_dat, v_retN, v_ifS, v_kifS1, v_kifS0, v_set, v_put_dat, v_put_fr, v_put_slot, v_kput, v_asg, v_kasg, v_kasg2, v_tgN, v_tgNil, v_tgCons, v_ktg, v_tgT, v_par, v_kpar, v_kpar1, v_kpar2, v_kpar3, v_fix_dat, v_fix_fr, v_fix_slot, v_kfix, v_aug, v_aslot, v_kaug, v_kaug2, v_for, v_try, v_ktry_nx, v_ktry_rt, v_ktry_er, v_ktry2, v_ktry3, v_runF, v_endF_rt, v_endF_nx, v_endF_er, v_runB, v_endB_rt, v_endB_nx, v_add, v_sub, v_mul, v_mod, v_fdiv, v_neg, v_lt, v_cmp, v_eq, v_ne, v_absD, v_int1, v_len_l, v_len_t, v_len_r, v_list_l, v_list_t, v_rev_l, v_rev_r, v_ixt, v_ixl, v_ixr, v_kb_NoneType_bool, v_kb_NoneType_int, v_kb_NoneType_str, v_kb_NoneType_tuple, v_kb_NoneType_list, v_kb_NoneType_dict, v_kb_bool_bool, v_kb_bool_int, v_kb_bool_str, v_kb_bool_tuple, v_kb_bool_list, v_kb_bool_dict, v_kb_int_bool, v_kb_int_int, v_kb_int_str, v_kb_int_tuple, v_kb_int_list, v_kb_int_dict, v_kb_str_bool, v_kb_str_int, v_kb_str_str, v_kb_str_tuple, v_kb_str_list, v_kb_str_dict, v_kb_tuple_bool, v_kb_tuple_int, v_kb_tuple_str, v_kb_tuple_tuple, v_kb_tuple_list, v_kb_tuple_dict, v_kb_list_bool, v_kb_list_int, v_kb_list_str, v_kb_list_tuple, v_kb_list_list, v_kb_list_dict, v_kb_dict_bool, v_kb_dict_int, v_kb_dict_str, v_kb_dict_tuple, v_kb_dict_list, v_kb_dict_dict, v_isi_non, v_isi_bl, v_isi_int, v_isi_str, v_isi_tup, v_isi_lst, v_isi_dct, v_eq_bb, v_ne_bb, v_isNone_non, v_isNone_bl, v_isNone_int, v_isNone_str, v_isNone_tup, v_isNone_lst, List.map_cons, List.map_nil, List.length_cons, List.length_nil, List.cons_append, List.nil_append, List.replicate_succ, List.replicate_zero, List.getElem?_cons_zero, List.getElem?_cons_succ, List.set_cons_zero, List.set_cons_succ, Option.map_some, Nat.reduceSub, Nat.reduceAdd, Nat.reduceLT, Nat.reduceLeDiff, bigN, drS, e, ha]
  obtain ⟨k, hs⟩ := seed
  obtain ⟨l2, k2, z5, h2, n2⟩ := dr_seed (s := .rol (ns.map D.int)) (l := l1) (x2 := y2) (x3 := y3) (x4 := y4) (x5 := y5) (k := k) n1 (by omega)
  refine ⟨l2.reverse, fun x hx => n2 x (List.mem_reverse.mp hx), ?_⟩
  have r2 : -1000000000 ≤ (2000 : Int) ∧ (2000 : Int) < 1000000000 := by decide
  have e0 : (([] : List Int).map D.int) = [] := rfl
  have hs2 := hs []
  unfold drS at h1 h2 hs2
  rw [e0] at h1
  rw [v_seq] at hs2
  have hs3 : ∀ f : DS → SRes, ((mSet 6 (mC (.int 1)) [.dat (.rol (ns.map D.int)), .own (.lst (l1.map D.int)), y2, y3, y4, y5, .emp]).then (mSeq (mIfS (mTest (mBin gtD (mCB lenD (mCons (mVar 0) mNil)) (mC (.int 0)))) (mSet 6 (mBin addD (mC (.int 1)) (mCB absD (mCons (mBin ixD (mVar 0) (mC (.int 0))) mNil)))) mSkip) f)) = f [.dat (.rol (ns.map D.int)), .own (.lst (l1.map D.int)), y2, y3, y4, y5, .dat (.int k)] := by
    intro f
    have hx : (mSet 6 (mC (.int 1)) [.dat (.rol (ns.map D.int)), .own (.lst (l1.map D.int)), y2, y3, y4, y5, .emp]) = .nx [.dat (.rol (ns.map D.int)), .own (.lst (l1.map D.int)), y2, y3, y4, y5, .dat (.int 1)] := rfl
    rw [hx, v_nx] at hs2 ⊢
    rw [v_seq, hs2, v_nx]
  unfold F_law_draws M_law_draws
  rw [v_runF]
  have hfst : (mSet 1 (mLst mNil)) ([D.rol (ns.map D.int)].map SV.dat ++ List.replicate (nn__law_draws.length - [D.rol (ns.map D.int)].length) .emp) = .nx [.dat (.rol (ns.map D.int)), .own (.lst []), .emp, .emp, .emp, .emp, .emp] := rfl
  rw [v_seq, hfst, v_nx, v_seq, v_for]
  have hi : (mIter (mVar 0)) [.dat (.rol (ns.map D.int)), .own (.lst []), .emp, .emp, .emp, .emp, .emp] = .ok (ns.map D.int) [.dat (.rol (ns.map D.int)), .own (.lst []), .emp, .emp, .emp, .emp, .emp] := rfl
  rw [hi, v_sok, h1, v_nx, v_seq, hs3, v_seq, v_for]
  simp only [v_bok, v_berr, v_sok, v_serr, v_nx, v_rt, v_bk, v_ct, v_er, v_ofs, v_var, v_slot_dat, v_slot_own, v_c, v_bin, v_kbin, v_op2, v_pk2, v_un, v_op1, v_pk1, v_peek_dat, v_peek_fr, v_peek_slot, v_pslot_own, v_pslot_dat, v_cnl, v_test, v_ktest, v_andT, v_kand1, v_kand0, v_orT, v_kor1, v_kor0, v_notT, v_knotT, v_and, v_kAnd1, v_kAnd0, v_or, v_kOr1, v_kOr0, v_not, v_knot, v_if, v_kif1, v_kif0, v_isNone, v_notNone, v_nil, v_cons, v_kcons, v_kcons2, v_fast, v_kfast, v_all0, v_all1, v_kall, v_kall2, v_force_dat, v_force_fr, v_force_slot, v_fslot_own, v_fslot_dat, v_tup, v_ktup, v_lst, v_klst, v_call, v_callF, v_at_ok, v_at_err, v_callB, v_vown, v_kcallB, v_vB, v_atB, v_meth, v_vM, v_methAt, v_vM2, v_vM3, v_append, v_pop, v_cb, v_kcb, v_pkL, v_peeks0, v_peeks1, v_cons22, v_isi, v_sl, v_ksl, v_ksl2, v_ksl3, v_slE_l, v_slE_t, v_slE_r, v_some, v_ksome, v_none, v_revSl, v_iter, v_it_l, v_it_r, v_it_t, v_rng1, v_rng2, v_lc, v_klc, v_klc2, v_yes, v_callV, v_vV, v_vV2, v_seq, v_skip, v_break, v_cont, v_raise, v_drop, v_kdrop, v_ret, v_ret_dat, v_ret_fr, v_ret_slot, v_rslot_own, v_rslot_dat, v_retN, v_ifS, v_kifS1, v_kifS0, v_set, v_put_dat, v_put_fr, v_put_slot, v_kput, v_asg, v_kasg, v_kasg2, v_tgN, v_tgNil, v_tgCons, v_ktg, v_tgT, v_par, v_kpar, v_kpar1, v_kpar2, v_kpar3, v_fix_dat, v_fix_fr, v_fix_slot, v_kfix, v_aug, v_aslot, v_kaug, v_kaug2, v_for, v_try, v_ktry_nx, v_ktry_rt, v_ktry_er, v_ktry2, v_ktry3, v_runF, v_endF_rt, v_endF_nx, v_endF_er, v_runB, v_endB_rt, v_endB_nx, v_add, v_sub, v_mul, v_mod, v_fdiv, v_neg, v_lt, v_cmp, v_eq, v_ne, v_absD, v_int1, v_len_l, v_len_t, v_len_r, v_list_l, v_list_t, v_rev_l, v_rev_r, v_ixt, v_ixl, v_ixr, v_kb_NoneType_bool, v_kb_NoneType_int, v_kb_NoneType_str, v_kb_NoneType_tuple, v_kb_NoneType_list, v_kb_NoneType_dict, v_kb_bool_bool, v_kb_bool_int, v_kb_bool_str, v_kb_bool_tuple, v_kb_bool_list, v_kb_bool_dict, v_kb_int_bool, v_kb_int_int, v_kb_int_str, v_kb_int_tuple, v_kb_int_list, v_kb_int_dict, v_kb_str_bool, v_kb_str_int, v_kb_str_str, v_kb_str_tuple, v_kb_str_list, v_kb_str_dict, v_kb_tuple_bool, v_kb_tuple_int, v_kb_tuple_str, v_kb_tuple_tuple, v_kb_tuple_list, v_kb_tuple_dict, v_kb_list_bool, v_kb_list_int, v_kb_list_str, v_kb_list_tuple, v_kb_list_list, v_kb_list_dict, v_kb_dict_bool, v_kb_dict_int, v_kb_dict_str, v_kb_dict_tuple, v_kb_dict_list, v_kb_dict_dict, v_isi_non, v_isi_bl, v_isi_int, v_isi_str, v_isi_tup, v_isi_lst, v_isi_dct, v_eq_bb, v_ne_bb, v_isNone_non, v_isNone_bl, v_isNone_int, v_isNone_str, v_isNone_tup, v_isNone_lst, List.map_cons, List.map_nil, List.length_cons, List.length_nil, List.cons_append, List.nil_append, List.replicate_succ, List.replicate_zero, List.getElem?_cons_zero, List.getElem?_cons_succ, List.set_cons_zero, List.set_cons_succ, Option.map_some, Nat.reduceSub, Nat.reduceAdd, Nat.reduceLT, Nat.reduceLeDiff, bigN, v_rng1 r2, h2]
  simp
end Lw

set_option maxHeartbeats 2000000
namespace Lw
open PySem DL
theorem e_pickI {l : List Int} {ds : List D} (bs : List Int) (hn : bs ≠ []) (hl : nonneg l) (hd : ds = bs.map D.int := by rfl) : ∃ (b : Int) (l' : List Int), F_law_pick (.lst (l.map D.int)) [.lst ds] = .ok (.dat (.int b)) (.lst (l'.map D.int)) ∧ b ∈ bs ∧ nonneg l' := by
  subst hd
  obtain ⟨d, l', h1, h2, h3⟩ := e_pick (ds := bs.map D.int) (by simpa using hn) hl
  obtain ⟨b, hb, rfl⟩ := List.mem_map.mp h2
  exact ⟨b, l', h1, hb, h3⟩
theorem same_int {a b : Int} (h : a = b) : F_law_same 6 [.int a, .int b] = .ok (.dat (.bl true)) := by
  subst h
  exact e_same 6 _ trivial
def lS (s : D) (l : List Int) (x2 x3 x4 x5 x6 x7 x8 x9 x10 x11 x12 x13 x14 x15 x16 x17 : SV) : DS := [.dat s, .own (.lst (l.map D.int)), x2, x3, x4, x5, x6, x7, x8, x9, x10, x11, x12, x13, x14, x15, x16, x17]
theorem S_add' {m a c n k : Int} (hn : 0 ≤ n) (hk : 0 ≤ k) : S m a c (n + k).toNat = S m a c n.toNat + S m a (c + a * n) k.toNat := by
  have e : (n + k).toNat = n.toNat + k.toNat := by omega
  rw [e, S_add, Int.toNat_of_nonneg hn]
theorem l_one {s : D} {l : List Int} {x2 x3 x4 x5 x6 x7 x8 x9 x10 x11 x12 x13 x14 x15 x16 x17 : SV} (hl : nonneg l) : ∃ (l' : List Int) (y2 y3 y4 y5 y6 y7 y8 : SV), forL (tgN 2) (mSeq
 (mPar 3 4 (mCons (mCallB 2 F_law_take 1 (mCons (mCallB 2 F_law_pick 1 (mCons (mLst (mCons (mC (.int 2)) (mCons (mC (.int 9)) (mCons (mC (.int 40)) mNil)))) mNil)) mNil)) (mCons (mBin addD (mC (.int 1)) (mCallB 2 F_law_take 1 (mCons (mCallB 2 F_law_pick 1 (mCons (mLst (mCons (mC (.int 2)) (mCons (mC (.int 9)) (mCons (mC (.int 1000)) mNil)))) mNil)) mNil))) mNil)))
 (mSeq
 (mSet 5 (mCallB 2 F_law_pick 1 (mCons (mLst (mCons (mC (.int 3)) (mCons (mC (.int 30)) (mCons (mBin powD (mC (.int 10)) (mC (.int 6))) mNil)))) mNil)))
 (mSeq
 (mPar 6 7 (mCons (mBin subD (mCallB 2 F_law_take 1 (mCons (mBin addD (mBin mulD (mC (.int 2)) (mVar 5)) (mC (.int 1))) mNil)) (mVar 5)) (mCons (mBin subD (mCallB 2 F_law_take 1 (mCons (mBin addD (mBin mulD (mC (.int 2)) (mVar 5)) (mC (.int 1))) mNil)) (mVar 5)) mNil)))
 (mSeq
 (mIfS (mNotT (mTest (mCall 2 (F_law_same 6) (mCons (mCall 2 F_law_told (mCons (mC (.int 0)) (mCons (mTup (mCons (mVar 3) (mCons (mVar 4) (mCons (mVar 6) (mCons (mVar 7) mNil))))) mNil))) (mCons (mCall 4 F_law_sum (mCons (mVar 3) (mCons (mVar 4) (mCons (mVar 6) (mCons (mVar 7) mNil))))) mNil))))) (mRet (mC (.bl false))) mSkip)
 (mSeq
 (mSet 8 (mCallB 2 F_law_take 1 (mCons (mC (.int 20)) mNil)))
 (mIfS (mNotT (mTest (mCall 2 (F_law_same 6) (mCons (mCall 2 F_law_told (mCons (mC (.int 0)) (mCons (mTup (mCons (mBin addD (mVar 3) (mVar 8)) (mCons (mVar 4) (mCons (mVar 6) (mCons (mVar 7) mNil))))) mNil))) (mCons (mBin addD (mCall 4 F_law_sum (mCons (mVar 3) (mCons (mVar 4) (mCons (mVar 6) (mCons (mVar 7) mNil))))) (mCall 4 F_law_sum (mCons (mVar 8) (mCons (mVar 4) (mCons (mVar 6) (mCons (mBin addD (mVar 7) (mBin mulD (mVar 6) (mVar 3))) mNil)))))) mNil))))) (mRet (mC (.bl false))) mSkip)))))) (iRow 0 (6 : Int).toNat) (lS s l x2 x3 x4 x5 x6 x7 x8 x9 x10 x11 x12 x13 x14 x15 x16 x17) = .nx (lS s l' y2 y3 y4 y5 y6 y7 y8 x9 x10 x11 x12 x13 x14 x15 x16 x17) ∧ nonneg l' := by
  obtain ⟨τ, h, l', y2, y3, y4, y5, y6, y7, y8, rfl, h1⟩ := for_all (mt := tgN 2) (mb := (mSeq
 (mPar 3 4 (mCons (mCallB 2 F_law_take 1 (mCons (mCallB 2 F_law_pick 1 (mCons (mLst (mCons (mC (.int 2)) (mCons (mC (.int 9)) (mCons (mC (.int 40)) mNil)))) mNil)) mNil)) (mCons (mBin addD (mC (.int 1)) (mCallB 2 F_law_take 1 (mCons (mCallB 2 F_law_pick 1 (mCons (mLst (mCons (mC (.int 2)) (mCons (mC (.int 9)) (mCons (mC (.int 1000)) mNil)))) mNil)) mNil))) mNil)))
 (mSeq
 (mSet 5 (mCallB 2 F_law_pick 1 (mCons (mLst (mCons (mC (.int 3)) (mCons (mC (.int 30)) (mCons (mBin powD (mC (.int 10)) (mC (.int 6))) mNil)))) mNil)))
 (mSeq
 (mPar 6 7 (mCons (mBin subD (mCallB 2 F_law_take 1 (mCons (mBin addD (mBin mulD (mC (.int 2)) (mVar 5)) (mC (.int 1))) mNil)) (mVar 5)) (mCons (mBin subD (mCallB 2 F_law_take 1 (mCons (mBin addD (mBin mulD (mC (.int 2)) (mVar 5)) (mC (.int 1))) mNil)) (mVar 5)) mNil)))
 (mSeq
 (mIfS (mNotT (mTest (mCall 2 (F_law_same 6) (mCons (mCall 2 F_law_told (mCons (mC (.int 0)) (mCons (mTup (mCons (mVar 3) (mCons (mVar 4) (mCons (mVar 6) (mCons (mVar 7) mNil))))) mNil))) (mCons (mCall 4 F_law_sum (mCons (mVar 3) (mCons (mVar 4) (mCons (mVar 6) (mCons (mVar 7) mNil))))) mNil))))) (mRet (mC (.bl false))) mSkip)
 (mSeq
 (mSet 8 (mCallB 2 F_law_take 1 (mCons (mC (.int 20)) mNil)))
 (mIfS (mNotT (mTest (mCall 2 (F_law_same 6) (mCons (mCall 2 F_law_told (mCons (mC (.int 0)) (mCons (mTup (mCons (mBin addD (mVar 3) (mVar 8)) (mCons (mVar 4) (mCons (mVar 6) (mCons (mVar 7) mNil))))) mNil))) (mCons (mBin addD (mCall 4 F_law_sum (mCons (mVar 3) (mCons (mVar 4) (mCons (mVar 6) (mCons (mVar 7) mNil))))) (mCall 4 F_law_sum (mCons (mVar 8) (mCons (mVar 4) (mCons (mVar 6) (mCons (mBin addD (mVar 7) (mBin mulD (mVar 6) (mVar 3))) mNil)))))) mNil))))) (mRet (mC (.bl false))) mSkip))))))) (xs := iRow 0 (6 : Int).toNat) (τ := lS s l x2 x3 x4 x5 x6 x7 x8 x9 x10 x11 x12 x13 x14 x15 x16 x17)
    (fun i τ => ∃ (l' : List Int) (y2 y3 y4 y5 y6 y7 y8 : SV), τ = lS s l' y2 y3 y4 y5 y6 y7 y8 x9 x10 x11 x12 x13 x14 x15 x16 x17 ∧ nonneg l') ⟨l, x2, x3, x4, x5, x6, x7, x8, rfl, hl⟩ (fun i x τ hx ⟨l0, y2, y3, y4, y5, y6, y7, y8, eτ, g0⟩ => by
      subst eτ
      obtain ⟨b1, l1, p1, m1, g1⟩ := e_pickI (ds := [.int 2, .int 9, .int 40]) [2, 9, 40] (by simp) g0
      obtain ⟨n, l2, p2, q2, r2, g2⟩ := e_take (b := b1) (by simp at m1; omega) g1
      obtain ⟨b3, l3, p3, m3, g3⟩ := e_pickI (ds := [.int 2, .int 9, .int 1000]) [2, 9, 1000] (by simp) g2
      obtain ⟨m, l4, p4, q4, r4, g4⟩ := e_take (b := b3) (by simp at m3; omega) g3
      obtain ⟨far, l5, p5, m5, g5⟩ := e_pickI (ds := [.int 3, .int 30, .int 1000000]) [3, 30, 1000000] (by simp) g4
      obtain ⟨a, l6, p6, q6, r6, g6⟩ := e_take (b := 2 * far + 1) (by simp at m5; omega) g5
      obtain ⟨c, l7, p7, q7, r7, g7⟩ := e_take (b := 2 * far + 1) (by simp at m5; omega) g6
      obtain ⟨k, l8, p8, q8, r8, g8⟩ := e_take (b := 20) (by decide) g7
      have hb1 : b1 ≤ 40 := by simp at m1; omega
      have hb3 : b3 ≤ 1000 := by simp at m3; omega
      have hf : 0 < far ∧ far ≤ 1000000 := by simp at m5; omega
      have t1 := e_told0 (n := n) (m := 1 + m) (a := a - far) (c := c - far) ⟨by omega, by omega, by omega, by omega, by omega, by omega⟩
      have s1 := e_sum (n := n) (m := 1 + m) (a := a - far) (c := c - far) (by omega) (by omega) (by omega) (by omega)
      have t2 := e_told0 (n := n + k) (m := 1 + m) (a := a - far) (c := c - far) ⟨by omega, by omega, by omega, by omega, by omega, by omega⟩
      have s2 := e_sum (n := k) (m := 1 + m) (a := a - far) (c := c - far + (a - far) * n) (by omega) (by omega) (by omega) (by omega)
      have k1 : L2.CMul 2 far := cK (by omega) (by omega)
      have k2 : L2.CMul (a - far) n := cK (by omega) (by omega)
      have e1 := same_int (a := S (1 + m) (a - far) (c - far) n.toNat) rfl
      have e2 := same_int (S_add' (m := 1 + m) (a := a - far) (c := c - far) (n := n) (k := k) (by omega) (by omega))
      refine ⟨lS s l0 (.dat x) y3 y4 y5 y6 y7 y8 x9 x10 x11 x12 x13 x14 x15 x16 x17, lS s l8 (.dat x) (.dat (.int n)) (.dat (.int (1 + m))) (.dat (.int far)) (.dat (.int (a - far))) (.dat (.int (c - far))) (.dat (.int k)) x9 x10 x11 x12 x13 x14 x15 x16 x17, rfl, ?_, _, _, _, _, _, _, _, _, rfl, g8⟩
      simp only [v_bok, v_berr, v_sok, v_serr, v_nx, v_rt, v_bk, v_ct, v_er, v_ofs, v_var, v_slot_dat, v_slot_own, v_c, v_bin, v_kbin, v_op2, v_pk2, v_un, v_op1, v_pk1, v_peek_dat, v_peek_fr, v_peek_slot, v_pslot_own, v_pslot_dat, v_cnl, v_test, v_ktest, v_andT, v_kand1, v_kand0, v_orT, v_kor1, v_kor0, v_notT, v_knotT, v_and, v_kAnd1, v_kAnd0, v_or, v_kOr1, v_kOr0, v_not, v_knot, v_if, v_kif1, v_kif0, v_isNone, v_notNone, v_nil, v_cons, v_kcons, v_kcons2, v_fast, v_kfast, v_all0, v_all1, v_kall, v_kall2, v_force_dat, v_force_fr, v_force_slot, v_fslot_own, v_fslot_dat, v_tup, v_ktup, v_lst, v_klst, v_call, v_callF, v_at_ok, v_at_err, v_callB, v_vown, v_kcallB, v_vB, v_atB, v_meth, v_vM, v_methAt, v_vM2, v_vM3, v_append, v_pop, v_cb, v_kcb, v_pkL, v_peeks0, v_peeks1, v_cons22, v_isi, v_sl, v_ksl, v_ksl2, v_ksl3, v_slE_l, v_slE_t, v_slE_r, v_some, v_ksome, v_none, v_revSl, v_iter, v_it_l, v_it_r, v_it_t, v_rng1, v_rng2, v_lc, v_klc, v_klc2, v_yes, v_callV, v_vV, v_vV2, v_seq, v_skip, v_break, v_cont, v_raise, v_drop, v_kdrop, v_ret, v_ret_dat, v_ret_fr, v_ret_slot, v_rslot_own, v_rslot_dat, v_retN, v_ifS, v_kifS1, v_kifS0, v_set, v_put_dat, v_put_fr, v_put_slot, v_kput, v_asg, v_kasg, v_kasg2, v_tgN, v_tgNil, v_tgCons, v_ktg, v_tgT, v_par, v_kpar, v_kpar1, v_kpar2, v_kpar3, v_fix_dat, v_fix_fr, v_fix_slot, v_kfix, v_aug, v_aslot, v_kaug, v_kaug2, v_for, v_try, v_ktry_nx, v_ktry_rt, v_ktry_er, v_ktry2, v_ktry3, v_runF, v_endF_rt, v_endF_nx, v_endF_er, v_runB, v_endB_rt, v_endB_nx, v_add, v_sub, v_mul, v_mod, v_fdiv, v_neg, v_lt, v_cmp, v_eq, v_ne, v_absD, v_int1, v_len_l, v_len_t, v_len_r, v_list_l, v_list_t, v_rev_l, v_rev_r, v_ixt, v_ixl, v_ixr, v_kb_NoneType_bool, v_kb_NoneType_int, v_kb_NoneType_str, v_kb_NoneType_tuple, v_kb_NoneType_list, v_kb_NoneType_dict, v_kb_bool_bool, v_kb_bool_int, v_kb_bool_str, v_kb_bool_tuple, v_kb_bool_list, v_kb_bool_dict, v_kb_int_bool, v_kb_int_int, v_kb_int_str, v_kb_int_tuple, v_kb_int_list, v_kb_int_dict, v_kb_str_bool, v_kb_str_int, v_kb_str_str, v_kb_str_tuple, v_kb_str_list, v_kb_str_dict, v_kb_tuple_bool, v_kb_tuple_int, v_kb_tuple_str, v_kb_tuple_tuple, v_kb_tuple_list, v_kb_tuple_dict, v_kb_list_bool, v_kb_list_int, v_kb_list_str, v_kb_list_tuple, v_kb_list_list, v_kb_list_dict, v_kb_dict_bool, v_kb_dict_int, v_kb_dict_str, v_kb_dict_tuple, v_kb_dict_list, v_kb_dict_dict, v_isi_non, v_isi_bl, v_isi_int, v_isi_str, v_isi_tup, v_isi_lst, v_isi_dct, v_eq_bb, v_ne_bb, v_isNone_non, v_isNone_bl, v_isNone_int, v_isNone_str, v_isNone_tup, v_isNone_lst, List.map_cons, List.map_nil, List.length_cons, List.length_nil, List.cons_append, List.nil_append, List.replicate_succ, List.replicate_zero, List.getElem?_cons_zero, List.getElem?_cons_succ, List.set_cons_zero, List.set_cons_succ, Option.map_some, Nat.reduceSub, Nat.reduceAdd, Nat.reduceLT, Nat.reduceLeDiff, bigN, lS, pow6, p1, p2, p3, p4, p5, p6, p7, p8, v_mul k1, v_mul k2, t1, s1, t2, s2, e1, e2, Bool.not_true])
  exact ⟨l', y2, y3, y4, y5, y6, y7, y8, h, h1⟩
theorem l_two {s : D} {l : List Int} {x2 x3 x4 x5 x6 x7 x8 x9 x10 x11 x12 x13 x14 x15 x16 x17 : SV} (hl : nonneg l) : ∃ (l' : List Int) (y2 y3 y5 y12 : SV), forL (tgN 2) (mSeq
 (mSet 5 (mCallB 2 F_law_pick 1 (mCons (mLst (mCons (mC (.int 5)) (mCons (mC (.int 60)) (mCons (mC (.int 1000)) (mCons (mBin powD (mC (.int 10)) (mC (.int 12))) mNil))))) mNil)))
 (mSeq
 (mPar 3 12 (mCons (mBin addD (mBin mulD (mCallB 2 F_law_take 1 (mCons (mVar 5) mNil)) (mCallB 2 F_law_pick 1 (mCons (mLst (mCons (mC (.int 0)) (mCons (mC (.int 1)) (mCons (mC (.int 1)) (mCons (mC (.int 7)) mNil))))) mNil))) (mCallB 2 F_law_pick 1 (mCons (mLst (mCons (mC (.int 0)) (mCons (mVar 5) mNil))) mNil))) (mCons (mBin addD (mC (.int 1)) (mCallB 2 F_law_take 1 (mCons (mVar 5) mNil))) mNil)))
 (mIfS (mNotT (mTest (mCallB 3 F_law_are_ratios_due 1 (mCons (mVar 3) (mCons (mVar 12) mNil))))) (mRet (mC (.bl false))) mSkip))) (iRow 0 (4 : Int).toNat) (lS s l x2 x3 x4 x5 x6 x7 x8 x9 x10 x11 x12 x13 x14 x15 x16 x17) = .nx (lS s l' y2 y3 x4 y5 x6 x7 x8 x9 x10 x11 y12 x13 x14 x15 x16 x17) ∧ nonneg l' := by
  obtain ⟨τ, h, l', y2, y3, y5, y12, rfl, h1⟩ := for_all (mt := tgN 2) (mb := (mSeq
 (mSet 5 (mCallB 2 F_law_pick 1 (mCons (mLst (mCons (mC (.int 5)) (mCons (mC (.int 60)) (mCons (mC (.int 1000)) (mCons (mBin powD (mC (.int 10)) (mC (.int 12))) mNil))))) mNil)))
 (mSeq
 (mPar 3 12 (mCons (mBin addD (mBin mulD (mCallB 2 F_law_take 1 (mCons (mVar 5) mNil)) (mCallB 2 F_law_pick 1 (mCons (mLst (mCons (mC (.int 0)) (mCons (mC (.int 1)) (mCons (mC (.int 1)) (mCons (mC (.int 7)) mNil))))) mNil))) (mCallB 2 F_law_pick 1 (mCons (mLst (mCons (mC (.int 0)) (mCons (mVar 5) mNil))) mNil))) (mCons (mBin addD (mC (.int 1)) (mCallB 2 F_law_take 1 (mCons (mVar 5) mNil))) mNil)))
 (mIfS (mNotT (mTest (mCallB 3 F_law_are_ratios_due 1 (mCons (mVar 3) (mCons (mVar 12) mNil))))) (mRet (mC (.bl false))) mSkip)))) (xs := iRow 0 (4 : Int).toNat) (τ := lS s l x2 x3 x4 x5 x6 x7 x8 x9 x10 x11 x12 x13 x14 x15 x16 x17)
    (fun i τ => ∃ (l' : List Int) (y2 y3 y5 y12 : SV), τ = lS s l' y2 y3 x4 y5 x6 x7 x8 x9 x10 x11 y12 x13 x14 x15 x16 x17 ∧ nonneg l') ⟨l, x2, x3, x5, x12, rfl, hl⟩ (fun i x τ hx ⟨l0, y2, y3, y5, y12, eτ, g0⟩ => by
      subst eτ
      obtain ⟨far, l1, p1, m1, g1⟩ := e_pickI (ds := [.int 5, .int 60, .int 1000, .int 1000000000000]) [5, 60, 1000, 1000000000000] (by simp) g0
      have hf : 0 < far ∧ far ≤ 1000000000000 := by simp at m1; omega
      obtain ⟨a, l2, p2, q2, r2, g2⟩ := e_take (b := far) (by omega) g1
      obtain ⟨b, l3, p3, m3, g3⟩ := e_pickI (ds := [.int 0, .int 1, .int 1, .int 7]) [0, 1, 1, 7] (by simp) g2
      have hb : b = 0 ∨ b = 1 ∨ b = 7 := by simp at m3; omega
      obtain ⟨e, l4, p4, m4, g4⟩ := e_pickI (ds := [.int 0, .int far]) [0, far] (by simp) g3
      have he : 0 ≤ e ∧ e ≤ far := by simp at m4; omega
      obtain ⟨d, l5, p5, q5, r5, g5⟩ := e_take (b := far) (by omega) g4
      have k1 : L2.CMul a b := cK (by omega) (by omega)
      have hab : 0 ≤ a * b ∧ a * b ≤ 7000000000000 := by rcases hb with z | z | z <;> rw [z] <;> omega
      have hn : (((a * b + e).toNat : Nat) : Int) = a * b + e := Int.toNat_of_nonneg (by omega)
      have hd : (((1 + d).toNat : Nat) : Int) = 1 + d := Int.toNat_of_nonneg (by omega)
      have h60 := e60
      have due := e_due (c := .lst (l5.map D.int)) (n := (a * b + e).toNat) (d := (1 + d).toNat) (by omega) (by omega) (by omega)
      unfold dI at due
      rw [hn, hd] at due
      refine ⟨lS s l0 (.dat x) y3 x4 y5 x6 x7 x8 x9 x10 x11 y12 x13 x14 x15 x16 x17, lS s l5 (.dat x) (.dat (.int (a * b + e))) x4 (.dat (.int far)) x6 x7 x8 x9 x10 x11 (.dat (.int (1 + d))) x13 x14 x15 x16 x17, rfl, ?_, _, _, _, _, _, rfl, g5⟩
      simp only [v_bok, v_berr, v_sok, v_serr, v_nx, v_rt, v_bk, v_ct, v_er, v_ofs, v_var, v_slot_dat, v_slot_own, v_c, v_bin, v_kbin, v_op2, v_pk2, v_un, v_op1, v_pk1, v_peek_dat, v_peek_fr, v_peek_slot, v_pslot_own, v_pslot_dat, v_cnl, v_test, v_ktest, v_andT, v_kand1, v_kand0, v_orT, v_kor1, v_kor0, v_notT, v_knotT, v_and, v_kAnd1, v_kAnd0, v_or, v_kOr1, v_kOr0, v_not, v_knot, v_if, v_kif1, v_kif0, v_isNone, v_notNone, v_nil, v_cons, v_kcons, v_kcons2, v_fast, v_kfast, v_all0, v_all1, v_kall, v_kall2, v_force_dat, v_force_fr, v_force_slot, v_fslot_own, v_fslot_dat, v_tup, v_ktup, v_lst, v_klst, v_call, v_callF, v_at_ok, v_at_err, v_callB, v_vown, v_kcallB, v_vB, v_atB, v_meth, v_vM, v_methAt, v_vM2, v_vM3, v_append, v_pop, v_cb, v_kcb, v_pkL, v_peeks0, v_peeks1, v_cons22, v_isi, v_sl, v_ksl, v_ksl2, v_ksl3, v_slE_l, v_slE_t, v_slE_r, v_some, v_ksome, v_none, v_revSl, v_iter, v_it_l, v_it_r, v_it_t, v_rng1, v_rng2, v_lc, v_klc, v_klc2, v_yes, v_callV, v_vV, v_vV2, v_seq, v_skip, v_break, v_cont, v_raise, v_drop, v_kdrop, v_ret, v_ret_dat, v_ret_fr, v_ret_slot, v_rslot_own, v_rslot_dat, v_retN, v_ifS, v_kifS1, v_kifS0, v_set, v_put_dat, v_put_fr, v_put_slot, v_kput, v_asg, v_kasg, v_kasg2, v_tgN, v_tgNil, v_tgCons, v_ktg, v_tgT, v_par, v_kpar, v_kpar1, v_kpar2, v_kpar3, v_fix_dat, v_fix_fr, v_fix_slot, v_kfix, v_aug, v_aslot, v_kaug, v_kaug2, v_for, v_try, v_ktry_nx, v_ktry_rt, v_ktry_er, v_ktry2, v_ktry3, v_runF, v_endF_rt, v_endF_nx, v_endF_er, v_runB, v_endB_rt, v_endB_nx, v_add, v_sub, v_mul, v_mod, v_fdiv, v_neg, v_lt, v_cmp, v_eq, v_ne, v_absD, v_int1, v_len_l, v_len_t, v_len_r, v_list_l, v_list_t, v_rev_l, v_rev_r, v_ixt, v_ixl, v_ixr, v_kb_NoneType_bool, v_kb_NoneType_int, v_kb_NoneType_str, v_kb_NoneType_tuple, v_kb_NoneType_list, v_kb_NoneType_dict, v_kb_bool_bool, v_kb_bool_int, v_kb_bool_str, v_kb_bool_tuple, v_kb_bool_list, v_kb_bool_dict, v_kb_int_bool, v_kb_int_int, v_kb_int_str, v_kb_int_tuple, v_kb_int_list, v_kb_int_dict, v_kb_str_bool, v_kb_str_int, v_kb_str_str, v_kb_str_tuple, v_kb_str_list, v_kb_str_dict, v_kb_tuple_bool, v_kb_tuple_int, v_kb_tuple_str, v_kb_tuple_tuple, v_kb_tuple_list, v_kb_tuple_dict, v_kb_list_bool, v_kb_list_int, v_kb_list_str, v_kb_list_tuple, v_kb_list_list, v_kb_list_dict, v_kb_dict_bool, v_kb_dict_int, v_kb_dict_str, v_kb_dict_tuple, v_kb_dict_list, v_kb_dict_dict, v_isi_non, v_isi_bl, v_isi_int, v_isi_str, v_isi_tup, v_isi_lst, v_isi_dct, v_eq_bb, v_ne_bb, v_isNone_non, v_isNone_bl, v_isNone_int, v_isNone_str, v_isNone_tup, v_isNone_lst, List.map_cons, List.map_nil, List.length_cons, List.length_nil, List.cons_append, List.nil_append, List.replicate_succ, List.replicate_zero, List.getElem?_cons_zero, List.getElem?_cons_succ, List.set_cons_zero, List.set_cons_succ, Option.map_some, Nat.reduceSub, Nat.reduceAdd, Nat.reduceLT, Nat.reduceLeDiff, bigN, lS, pow12, p1, p2, p3, p4, p5, v_mul k1, due, Bool.not_true])
  exact ⟨l', y2, y3, y5, y12, h, h1⟩
theorem l_fib {s : D} {l : List Int} {x2 x3 x4 x5 x6 x7 x8 x9 x10 x11 x12 x15 x16 x17 : SV} (t : Nat) (ht : t < 30) : ∃ (y2 : SV) (a b : Nat), forL (tgN 2) (mPar 13 14 (mCons (mBin addD (mVar 13) (mVar 14)) (mCons (mVar 13) mNil))) (iRow 0 t) (lS s l x2 x3 x4 x5 x6 x7 x8 x9 x10 x11 x12 (.dat (.int 1)) (.dat (.int 1)) x15 x16 x17) = .nx (lS s l y2 x3 x4 x5 x6 x7 x8 x9 x10 x11 x12 (.dat (dI a)) (.dat (dI b)) x15 x16 x17) ∧ 0 < a ∧ 0 < b ∧ a < 2 ^ 60 ∧ b < 2 ^ 60 := by
  obtain ⟨τ, h, y2, a, b, rfl, h1, h2, h3, h4⟩ := for_all (mt := tgN 2) (mb := (mPar 13 14 (mCons (mBin addD (mVar 13) (mVar 14)) (mCons (mVar 13) mNil)))) (xs := iRow 0 t) (τ := lS s l x2 x3 x4 x5 x6 x7 x8 x9 x10 x11 x12 (.dat (.int 1)) (.dat (.int 1)) x15 x16 x17)
    (fun i τ => ∃ (y2 : SV) (a b : Nat), τ = lS s l y2 x3 x4 x5 x6 x7 x8 x9 x10 x11 x12 (.dat (dI a)) (.dat (dI b)) x15 x16 x17 ∧ 0 < a ∧ 0 < b ∧ a ≤ 2 ^ i ∧ b ≤ 2 ^ i) ⟨x2, 1, 1, rfl, by omega, by omega, by simp, by simp⟩ (fun i x τ hx ⟨y2, a, b, eτ, g1, g2, g3, g4⟩ => by
      subst eτ
      have e : (a : Int) + b = ((a + b : Nat) : Int) := by push_cast; rfl
      have e2 : 2 ^ (i + 1) = 2 * 2 ^ i := by rw [Nat.pow_succ]; omega
      refine ⟨lS s l (.dat x) x3 x4 x5 x6 x7 x8 x9 x10 x11 x12 (.dat (dI a)) (.dat (dI b)) x15 x16 x17, lS s l (.dat x) x3 x4 x5 x6 x7 x8 x9 x10 x11 x12 (.dat (dI (a + b))) (.dat (dI a)) x15 x16 x17, rfl, ?_, _, a + b, a, rfl, by omega, by omega, by omega, by omega⟩
      simp only [v_bok, v_berr, v_sok, v_serr, v_nx, v_rt, v_bk, v_ct, v_er, v_ofs, v_var, v_slot_dat, v_slot_own, v_c, v_bin, v_kbin, v_op2, v_pk2, v_un, v_op1, v_pk1, v_peek_dat, v_peek_fr, v_peek_slot, v_pslot_own, v_pslot_dat, v_cnl, v_test, v_ktest, v_andT, v_kand1, v_kand0, v_orT, v_kor1, v_kor0, v_notT, v_knotT, v_and, v_kAnd1, v_kAnd0, v_or, v_kOr1, v_kOr0, v_not, v_knot, v_if, v_kif1, v_kif0, v_isNone, v_notNone, v_nil, v_cons, v_kcons, v_kcons2, v_fast, v_kfast, v_all0, v_all1, v_kall, v_kall2, v_force_dat, v_force_fr, v_force_slot, v_fslot_own, v_fslot_dat, v_tup, v_ktup, v_lst, v_klst, v_call, v_callF, v_at_ok, v_at_err, v_callB, v_vown, v_kcallB, v_vB, v_atB, v_meth, v_vM, v_methAt, v_vM2, v_vM3, v_append, v_pop, v_cb, v_kcb, v_pkL, v_peeks0, v_peeks1, v_cons22, v_isi, v_sl, v_ksl, v_ksl2, v_ksl3, v_slE_l, v_slE_t, v_slE_r, v_some, v_ksome, v_none, v_revSl, v_iter, v_it_l, v_it_r, v_it_t, v_rng1, v_rng2, v_lc, v_klc, v_klc2, v_yes, v_callV, v_vV, v_vV2, v_seq, v_skip, v_break, v_cont, v_raise, v_drop, v_kdrop, v_ret, v_ret_dat, v_ret_fr, v_ret_slot, v_rslot_own, v_rslot_dat, v_retN, v_ifS, v_kifS1, v_kifS0, v_set, v_put_dat, v_put_fr, v_put_slot, v_kput, v_asg, v_kasg, v_kasg2, v_tgN, v_tgNil, v_tgCons, v_ktg, v_tgT, v_par, v_kpar, v_kpar1, v_kpar2, v_kpar3, v_fix_dat, v_fix_fr, v_fix_slot, v_kfix, v_aug, v_aslot, v_kaug, v_kaug2, v_for, v_try, v_ktry_nx, v_ktry_rt, v_ktry_er, v_ktry2, v_ktry3, v_runF, v_endF_rt, v_endF_nx, v_endF_er, v_runB, v_endB_rt, v_endB_nx, v_add, v_sub, v_mul, v_mod, v_fdiv, v_neg, v_lt, v_cmp, v_eq, v_ne, v_absD, v_int1, v_len_l, v_len_t, v_len_r, v_list_l, v_list_t, v_rev_l, v_rev_r, v_ixt, v_ixl, v_ixr, v_kb_NoneType_bool, v_kb_NoneType_int, v_kb_NoneType_str, v_kb_NoneType_tuple, v_kb_NoneType_list, v_kb_NoneType_dict, v_kb_bool_bool, v_kb_bool_int, v_kb_bool_str, v_kb_bool_tuple, v_kb_bool_list, v_kb_bool_dict, v_kb_int_bool, v_kb_int_int, v_kb_int_str, v_kb_int_tuple, v_kb_int_list, v_kb_int_dict, v_kb_str_bool, v_kb_str_int, v_kb_str_str, v_kb_str_tuple, v_kb_str_list, v_kb_str_dict, v_kb_tuple_bool, v_kb_tuple_int, v_kb_tuple_str, v_kb_tuple_tuple, v_kb_tuple_list, v_kb_tuple_dict, v_kb_list_bool, v_kb_list_int, v_kb_list_str, v_kb_list_tuple, v_kb_list_list, v_kb_list_dict, v_kb_dict_bool, v_kb_dict_int, v_kb_dict_str, v_kb_dict_tuple, v_kb_dict_list, v_kb_dict_dict, v_isi_non, v_isi_bl, v_isi_int, v_isi_str, v_isi_tup, v_isi_lst, v_isi_dct, v_eq_bb, v_ne_bb, v_isNone_non, v_isNone_bl, v_isNone_int, v_isNone_str, v_isNone_tup, v_isNone_lst, List.map_cons, List.map_nil, List.length_cons, List.length_nil, List.cons_append, List.nil_append, List.replicate_succ, List.replicate_zero, List.getElem?_cons_zero, List.getElem?_cons_succ, List.set_cons_zero, List.set_cons_succ, Option.map_some, Nat.reduceSub, Nat.reduceAdd, Nat.reduceLT, Nat.reduceLeDiff, bigN, lS, e])
  rw [iRow_len] at h3 h4
  have h60 := e60
  have : 2 ^ t < 2 ^ 60 := Nat.pow_lt_pow_right (by omega) (by omega)
  exact ⟨y2, a, b, h, h1, h2, by omega, by omega⟩
theorem e_cr_bad {x y : D} (hp : ∀ d ∈ [x, y], plain d = true) (hb : [x, y].all isInt = false) : F_check_ratio [x, y] = .err 2 := by
  have hk := e_check hp (by simp)
  rw [hb] at hk
  have hk2 : F_check_integers [.lst [x, y]] = .err 2 := hk
  unfold F_check_ratio M_check_ratio
  simp only [v_bok, v_berr, v_sok, v_serr, v_nx, v_rt, v_bk, v_ct, v_er, v_ofs, v_var, v_slot_dat, v_slot_own, v_c, v_bin, v_kbin, v_op2, v_pk2, v_un, v_op1, v_pk1, v_peek_dat, v_peek_fr, v_peek_slot, v_pslot_own, v_pslot_dat, v_cnl, v_test, v_ktest, v_andT, v_kand1, v_kand0, v_orT, v_kor1, v_kor0, v_notT, v_knotT, v_and, v_kAnd1, v_kAnd0, v_or, v_kOr1, v_kOr0, v_not, v_knot, v_if, v_kif1, v_kif0, v_isNone, v_notNone, v_nil, v_cons, v_kcons, v_kcons2, v_fast, v_kfast, v_all0, v_all1, v_kall, v_kall2, v_force_dat, v_force_fr, v_force_slot, v_fslot_own, v_fslot_dat, v_tup, v_ktup, v_lst, v_klst, v_call, v_callF, v_at_ok, v_at_err, v_callB, v_vown, v_kcallB, v_vB, v_atB, v_meth, v_vM, v_methAt, v_vM2, v_vM3, v_append, v_pop, v_cb, v_kcb, v_pkL, v_peeks0, v_peeks1, v_cons22, v_isi, v_sl, v_ksl, v_ksl2, v_ksl3, v_slE_l, v_slE_t, v_slE_r, v_some, v_ksome, v_none, v_revSl, v_iter, v_it_l, v_it_r, v_it_t, v_rng1, v_rng2, v_lc, v_klc, v_klc2, v_yes, v_callV, v_vV, v_vV2, v_seq, v_skip, v_break, v_cont, v_raise, v_drop, v_kdrop, v_ret, v_ret_dat, v_ret_fr, v_ret_slot, v_rslot_own, v_rslot_dat, v_retN, v_ifS, v_kifS1, v_kifS0, v_set, v_put_dat, v_put_fr, v_put_slot, v_kput, v_asg, v_kasg, v_kasg2, v_tgN, v_tgNil, v_tgCons, v_ktg, v_tgT, v_par, v_kpar, v_kpar1, v_kpar2, v_kpar3, v_fix_dat, v_fix_fr, v_fix_slot, v_kfix, v_aug, v_aslot, v_kaug, v_kaug2, v_for, v_try, v_ktry_nx, v_ktry_rt, v_ktry_er, v_ktry2, v_ktry3, v_runF, v_endF_rt, v_endF_nx, v_endF_er, v_runB, v_endB_rt, v_endB_nx, v_add, v_sub, v_mul, v_mod, v_fdiv, v_neg, v_lt, v_cmp, v_eq, v_ne, v_absD, v_int1, v_len_l, v_len_t, v_len_r, v_list_l, v_list_t, v_rev_l, v_rev_r, v_ixt, v_ixl, v_ixr, v_kb_NoneType_bool, v_kb_NoneType_int, v_kb_NoneType_str, v_kb_NoneType_tuple, v_kb_NoneType_list, v_kb_NoneType_dict, v_kb_bool_bool, v_kb_bool_int, v_kb_bool_str, v_kb_bool_tuple, v_kb_bool_list, v_kb_bool_dict, v_kb_int_bool, v_kb_int_int, v_kb_int_str, v_kb_int_tuple, v_kb_int_list, v_kb_int_dict, v_kb_str_bool, v_kb_str_int, v_kb_str_str, v_kb_str_tuple, v_kb_str_list, v_kb_str_dict, v_kb_tuple_bool, v_kb_tuple_int, v_kb_tuple_str, v_kb_tuple_tuple, v_kb_tuple_list, v_kb_tuple_dict, v_kb_list_bool, v_kb_list_int, v_kb_list_str, v_kb_list_tuple, v_kb_list_list, v_kb_list_dict, v_kb_dict_bool, v_kb_dict_int, v_kb_dict_str, v_kb_dict_tuple, v_kb_dict_list, v_kb_dict_dict, v_isi_non, v_isi_bl, v_isi_int, v_isi_str, v_isi_tup, v_isi_lst, v_isi_dct, v_eq_bb, v_ne_bb, v_isNone_non, v_isNone_bl, v_isNone_int, v_isNone_str, v_isNone_tup, v_isNone_lst, List.map_cons, List.map_nil, List.length_cons, List.length_nil, List.cons_append, List.nil_append, List.replicate_succ, List.replicate_zero, List.getElem?_cons_zero, List.getElem?_cons_succ, List.set_cons_zero, List.set_cons_succ, Option.map_some, Nat.reduceSub, Nat.reduceAdd, Nat.reduceLT, Nat.reduceLeDiff, bigN, hk2]
theorem e_cr_bad2 {n d : Int} (h : n < 0 ∨ d < 1) : F_check_ratio [.int n, .int d] = .err 2 := by
  have hk := (e_check (ds := [.int n, .int d]) (fun d hd => by simp only [List.mem_cons, List.not_mem_nil, or_false] at hd; rcases hd with rfl | rfl <;> rfl) (by simp)).trans (if_pos rfl)
  unfold F_check_ratio M_check_ratio
  by_cases h1 : n < 0
  · simp only [v_bok, v_berr, v_sok, v_serr, v_nx, v_rt, v_bk, v_ct, v_er, v_ofs, v_var, v_slot_dat, v_slot_own, v_c, v_bin, v_kbin, v_op2, v_pk2, v_un, v_op1, v_pk1, v_peek_dat, v_peek_fr, v_peek_slot, v_pslot_own, v_pslot_dat, v_cnl, v_test, v_ktest, v_andT, v_kand1, v_kand0, v_orT, v_kor1, v_kor0, v_notT, v_knotT, v_and, v_kAnd1, v_kAnd0, v_or, v_kOr1, v_kOr0, v_not, v_knot, v_if, v_kif1, v_kif0, v_isNone, v_notNone, v_nil, v_cons, v_kcons, v_kcons2, v_fast, v_kfast, v_all0, v_all1, v_kall, v_kall2, v_force_dat, v_force_fr, v_force_slot, v_fslot_own, v_fslot_dat, v_tup, v_ktup, v_lst, v_klst, v_call, v_callF, v_at_ok, v_at_err, v_callB, v_vown, v_kcallB, v_vB, v_atB, v_meth, v_vM, v_methAt, v_vM2, v_vM3, v_append, v_pop, v_cb, v_kcb, v_pkL, v_peeks0, v_peeks1, v_cons22, v_isi, v_sl, v_ksl, v_ksl2, v_ksl3, v_slE_l, v_slE_t, v_slE_r, v_some, v_ksome, v_none, v_revSl, v_iter, v_it_l, v_it_r, v_it_t, v_rng1, v_rng2, v_lc, v_klc, v_klc2, v_yes, v_callV, v_vV, v_vV2, v_seq, v_skip, v_break, v_cont, v_raise, v_drop, v_kdrop, v_ret, v_ret_dat, v_ret_fr, v_ret_slot, v_rslot_own, v_rslot_dat, v_retN, v_ifS, v_kifS1, v_kifS0, v_set, v_put_dat, v_put_fr, v_put_slot, v_kput, v_asg, v_kasg, v_kasg2, v_tgN, v_tgNil, v_tgCons, v_ktg, v_tgT, v_par, v_kpar, v_kpar1, v_kpar2, v_kpar3, v_fix_dat, v_fix_fr, v_fix_slot, v_kfix, v_aug, v_aslot, v_kaug, v_kaug2, v_for, v_try, v_ktry_nx, v_ktry_rt, v_ktry_er, v_ktry2, v_ktry3, v_runF, v_endF_rt, v_endF_nx, v_endF_er, v_runB, v_endB_rt, v_endB_nx, v_add, v_sub, v_mul, v_mod, v_fdiv, v_neg, v_lt, v_cmp, v_eq, v_ne, v_absD, v_int1, v_len_l, v_len_t, v_len_r, v_list_l, v_list_t, v_rev_l, v_rev_r, v_ixt, v_ixl, v_ixr, v_kb_NoneType_bool, v_kb_NoneType_int, v_kb_NoneType_str, v_kb_NoneType_tuple, v_kb_NoneType_list, v_kb_NoneType_dict, v_kb_bool_bool, v_kb_bool_int, v_kb_bool_str, v_kb_bool_tuple, v_kb_bool_list, v_kb_bool_dict, v_kb_int_bool, v_kb_int_int, v_kb_int_str, v_kb_int_tuple, v_kb_int_list, v_kb_int_dict, v_kb_str_bool, v_kb_str_int, v_kb_str_str, v_kb_str_tuple, v_kb_str_list, v_kb_str_dict, v_kb_tuple_bool, v_kb_tuple_int, v_kb_tuple_str, v_kb_tuple_tuple, v_kb_tuple_list, v_kb_tuple_dict, v_kb_list_bool, v_kb_list_int, v_kb_list_str, v_kb_list_tuple, v_kb_list_list, v_kb_list_dict, v_kb_dict_bool, v_kb_dict_int, v_kb_dict_str, v_kb_dict_tuple, v_kb_dict_list, v_kb_dict_dict, v_isi_non, v_isi_bl, v_isi_int, v_isi_str, v_isi_tup, v_isi_lst, v_isi_dct, v_eq_bb, v_ne_bb, v_isNone_non, v_isNone_bl, v_isNone_int, v_isNone_str, v_isNone_tup, v_isNone_lst, List.map_cons, List.map_nil, List.length_cons, List.length_nil, List.cons_append, List.nil_append, List.replicate_succ, List.replicate_zero, List.getElem?_cons_zero, List.getElem?_cons_succ, List.set_cons_zero, List.set_cons_succ, Option.map_some, Nat.reduceSub, Nat.reduceAdd, Nat.reduceLT, Nat.reduceLeDiff, bigN, hk, decide_eq_true h1]
  · simp only [v_bok, v_berr, v_sok, v_serr, v_nx, v_rt, v_bk, v_ct, v_er, v_ofs, v_var, v_slot_dat, v_slot_own, v_c, v_bin, v_kbin, v_op2, v_pk2, v_un, v_op1, v_pk1, v_peek_dat, v_peek_fr, v_peek_slot, v_pslot_own, v_pslot_dat, v_cnl, v_test, v_ktest, v_andT, v_kand1, v_kand0, v_orT, v_kor1, v_kor0, v_notT, v_knotT, v_and, v_kAnd1, v_kAnd0, v_or, v_kOr1, v_kOr0, v_not, v_knot, v_if, v_kif1, v_kif0, v_isNone, v_notNone, v_nil, v_cons, v_kcons, v_kcons2, v_fast, v_kfast, v_all0, v_all1, v_kall, v_kall2, v_force_dat, v_force_fr, v_force_slot, v_fslot_own, v_fslot_dat, v_tup, v_ktup, v_lst, v_klst, v_call, v_callF, v_at_ok, v_at_err, v_callB, v_vown, v_kcallB, v_vB, v_atB, v_meth, v_vM, v_methAt, v_vM2, v_vM3, v_append, v_pop, v_cb, v_kcb, v_pkL, v_peeks0, v_peeks1, v_cons22, v_isi, v_sl, v_ksl, v_ksl2, v_ksl3, v_slE_l, v_slE_t, v_slE_r, v_some, v_ksome, v_none, v_revSl, v_iter, v_it_l, v_it_r, v_it_t, v_rng1, v_rng2, v_lc, v_klc, v_klc2, v_yes, v_callV, v_vV, v_vV2, v_seq, v_skip, v_break, v_cont, v_raise, v_drop, v_kdrop, v_ret, v_ret_dat, v_ret_fr, v_ret_slot, v_rslot_own, v_rslot_dat, v_retN, v_ifS, v_kifS1, v_kifS0, v_set, v_put_dat, v_put_fr, v_put_slot, v_kput, v_asg, v_kasg, v_kasg2, v_tgN, v_tgNil, v_tgCons, v_ktg, v_tgT, v_par, v_kpar, v_kpar1, v_kpar2, v_kpar3, v_fix_dat, v_fix_fr, v_fix_slot, v_kfix, v_aug, v_aslot, v_kaug, v_kaug2, v_for, v_try, v_ktry_nx, v_ktry_rt, v_ktry_er, v_ktry2, v_ktry3, v_runF, v_endF_rt, v_endF_nx, v_endF_er, v_runB, v_endB_rt, v_endB_nx, v_add, v_sub, v_mul, v_mod, v_fdiv, v_neg, v_lt, v_cmp, v_eq, v_ne, v_absD, v_int1, v_len_l, v_len_t, v_len_r, v_list_l, v_list_t, v_rev_l, v_rev_r, v_ixt, v_ixl, v_ixr, v_kb_NoneType_bool, v_kb_NoneType_int, v_kb_NoneType_str, v_kb_NoneType_tuple, v_kb_NoneType_list, v_kb_NoneType_dict, v_kb_bool_bool, v_kb_bool_int, v_kb_bool_str, v_kb_bool_tuple, v_kb_bool_list, v_kb_bool_dict, v_kb_int_bool, v_kb_int_int, v_kb_int_str, v_kb_int_tuple, v_kb_int_list, v_kb_int_dict, v_kb_str_bool, v_kb_str_int, v_kb_str_str, v_kb_str_tuple, v_kb_str_list, v_kb_str_dict, v_kb_tuple_bool, v_kb_tuple_int, v_kb_tuple_str, v_kb_tuple_tuple, v_kb_tuple_list, v_kb_tuple_dict, v_kb_list_bool, v_kb_list_int, v_kb_list_str, v_kb_list_tuple, v_kb_list_list, v_kb_list_dict, v_kb_dict_bool, v_kb_dict_int, v_kb_dict_str, v_kb_dict_tuple, v_kb_dict_list, v_kb_dict_dict, v_isi_non, v_isi_bl, v_isi_int, v_isi_str, v_isi_tup, v_isi_lst, v_isi_dct, v_eq_bb, v_ne_bb, v_isNone_non, v_isNone_bl, v_isNone_int, v_isNone_str, v_isNone_tup, v_isNone_lst, List.map_cons, List.map_nil, List.length_cons, List.length_nil, List.cons_append, List.nil_append, List.replicate_succ, List.replicate_zero, List.getElem?_cons_zero, List.getElem?_cons_succ, List.set_cons_zero, List.set_cons_succ, Option.map_some, Nat.reduceSub, Nat.reduceAdd, Nat.reduceLT, Nat.reduceLeDiff, bigN, hk, decide_eq_false h1, decide_eq_true (h.resolve_left h1)]
theorem e_told1_bad {x y : D} (h : F_check_ratio [x, y] = .err 2) : F_law_told [.int 1, .tup [x, y]] = .ok (.dat (.str "not right")) := by
  have e0 : ((1 : Int) == 0) = false := rfl
  have a0 : ∀ x y : D, L2.atI [x, y] 0 = some x := fun _ _ => rfl
  have p : F_parts_of_ratio [x, y] = .err 2 := by
    unfold F_parts_of_ratio M_parts_of_ratio
    simp only [v_bok, v_berr, v_sok, v_serr, v_nx, v_rt, v_bk, v_ct, v_er, v_ofs, v_var, v_slot_dat, v_slot_own, v_c, v_bin, v_kbin, v_op2, v_pk2, v_un, v_op1, v_pk1, v_peek_dat, v_peek_fr, v_peek_slot, v_pslot_own, v_pslot_dat, v_cnl, v_test, v_ktest, v_andT, v_kand1, v_kand0, v_orT, v_kor1, v_kor0, v_notT, v_knotT, v_and, v_kAnd1, v_kAnd0, v_or, v_kOr1, v_kOr0, v_not, v_knot, v_if, v_kif1, v_kif0, v_isNone, v_notNone, v_nil, v_cons, v_kcons, v_kcons2, v_fast, v_kfast, v_all0, v_all1, v_kall, v_kall2, v_force_dat, v_force_fr, v_force_slot, v_fslot_own, v_fslot_dat, v_tup, v_ktup, v_lst, v_klst, v_call, v_callF, v_at_ok, v_at_err, v_callB, v_vown, v_kcallB, v_vB, v_atB, v_meth, v_vM, v_methAt, v_vM2, v_vM3, v_append, v_pop, v_cb, v_kcb, v_pkL, v_peeks0, v_peeks1, v_cons22, v_isi, v_sl, v_ksl, v_ksl2, v_ksl3, v_slE_l, v_slE_t, v_slE_r, v_some, v_ksome, v_none, v_revSl, v_iter, v_it_l, v_it_r, v_it_t, v_rng1, v_rng2, v_lc, v_klc, v_klc2, v_yes, v_callV, v_vV, v_vV2, v_seq, v_skip, v_break, v_cont, v_raise, v_drop, v_kdrop, v_ret, v_ret_dat, v_ret_fr, v_ret_slot, v_rslot_own, v_rslot_dat, v_retN, v_ifS, v_kifS1, v_kifS0, v_set, v_put_dat, v_put_fr, v_put_slot, v_kput, v_asg, v_kasg, v_kasg2, v_tgN, v_tgNil, v_tgCons, v_ktg, v_tgT, v_par, v_kpar, v_kpar1, v_kpar2, v_kpar3, v_fix_dat, v_fix_fr, v_fix_slot, v_kfix, v_aug, v_aslot, v_kaug, v_kaug2, v_for, v_try, v_ktry_nx, v_ktry_rt, v_ktry_er, v_ktry2, v_ktry3, v_runF, v_endF_rt, v_endF_nx, v_endF_er, v_runB, v_endB_rt, v_endB_nx, v_add, v_sub, v_mul, v_mod, v_fdiv, v_neg, v_lt, v_cmp, v_eq, v_ne, v_absD, v_int1, v_len_l, v_len_t, v_len_r, v_list_l, v_list_t, v_rev_l, v_rev_r, v_ixt, v_ixl, v_ixr, v_kb_NoneType_bool, v_kb_NoneType_int, v_kb_NoneType_str, v_kb_NoneType_tuple, v_kb_NoneType_list, v_kb_NoneType_dict, v_kb_bool_bool, v_kb_bool_int, v_kb_bool_str, v_kb_bool_tuple, v_kb_bool_list, v_kb_bool_dict, v_kb_int_bool, v_kb_int_int, v_kb_int_str, v_kb_int_tuple, v_kb_int_list, v_kb_int_dict, v_kb_str_bool, v_kb_str_int, v_kb_str_str, v_kb_str_tuple, v_kb_str_list, v_kb_str_dict, v_kb_tuple_bool, v_kb_tuple_int, v_kb_tuple_str, v_kb_tuple_tuple, v_kb_tuple_list, v_kb_tuple_dict, v_kb_list_bool, v_kb_list_int, v_kb_list_str, v_kb_list_tuple, v_kb_list_list, v_kb_list_dict, v_kb_dict_bool, v_kb_dict_int, v_kb_dict_str, v_kb_dict_tuple, v_kb_dict_list, v_kb_dict_dict, v_isi_non, v_isi_bl, v_isi_int, v_isi_str, v_isi_tup, v_isi_lst, v_isi_dct, v_eq_bb, v_ne_bb, v_isNone_non, v_isNone_bl, v_isNone_int, v_isNone_str, v_isNone_tup, v_isNone_lst, List.map_cons, List.map_nil, List.length_cons, List.length_nil, List.cons_append, List.nil_append, List.replicate_succ, List.replicate_zero, List.getElem?_cons_zero, List.getElem?_cons_succ, List.set_cons_zero, List.set_cons_succ, Option.map_some, Nat.reduceSub, Nat.reduceAdd, Nat.reduceLT, Nat.reduceLeDiff, bigN, h]
  unfold F_law_told M_law_told
  simp only [v_bok, v_berr, v_sok, v_serr, v_nx, v_rt, v_bk, v_ct, v_er, v_ofs, v_var, v_slot_dat, v_slot_own, v_c, v_bin, v_kbin, v_op2, v_pk2, v_un, v_op1, v_pk1, v_peek_dat, v_peek_fr, v_peek_slot, v_pslot_own, v_pslot_dat, v_cnl, v_test, v_ktest, v_andT, v_kand1, v_kand0, v_orT, v_kor1, v_kor0, v_notT, v_knotT, v_and, v_kAnd1, v_kAnd0, v_or, v_kOr1, v_kOr0, v_not, v_knot, v_if, v_kif1, v_kif0, v_isNone, v_notNone, v_nil, v_cons, v_kcons, v_kcons2, v_fast, v_kfast, v_all0, v_all1, v_kall, v_kall2, v_force_dat, v_force_fr, v_force_slot, v_fslot_own, v_fslot_dat, v_tup, v_ktup, v_lst, v_klst, v_call, v_callF, v_at_ok, v_at_err, v_callB, v_vown, v_kcallB, v_vB, v_atB, v_meth, v_vM, v_methAt, v_vM2, v_vM3, v_append, v_pop, v_cb, v_kcb, v_pkL, v_peeks0, v_peeks1, v_cons22, v_isi, v_sl, v_ksl, v_ksl2, v_ksl3, v_slE_l, v_slE_t, v_slE_r, v_some, v_ksome, v_none, v_revSl, v_iter, v_it_l, v_it_r, v_it_t, v_rng1, v_rng2, v_lc, v_klc, v_klc2, v_yes, v_callV, v_vV, v_vV2, v_seq, v_skip, v_break, v_cont, v_raise, v_drop, v_kdrop, v_ret, v_ret_dat, v_ret_fr, v_ret_slot, v_rslot_own, v_rslot_dat, v_retN, v_ifS, v_kifS1, v_kifS0, v_set, v_put_dat, v_put_fr, v_put_slot, v_kput, v_asg, v_kasg, v_kasg2, v_tgN, v_tgNil, v_tgCons, v_ktg, v_tgT, v_par, v_kpar, v_kpar1, v_kpar2, v_kpar3, v_fix_dat, v_fix_fr, v_fix_slot, v_kfix, v_aug, v_aslot, v_kaug, v_kaug2, v_for, v_try, v_ktry_nx, v_ktry_rt, v_ktry_er, v_ktry2, v_ktry3, v_runF, v_endF_rt, v_endF_nx, v_endF_er, v_runB, v_endB_rt, v_endB_nx, v_add, v_sub, v_mul, v_mod, v_fdiv, v_neg, v_lt, v_cmp, v_eq, v_ne, v_absD, v_int1, v_len_l, v_len_t, v_len_r, v_list_l, v_list_t, v_rev_l, v_rev_r, v_ixt, v_ixl, v_ixr, v_kb_NoneType_bool, v_kb_NoneType_int, v_kb_NoneType_str, v_kb_NoneType_tuple, v_kb_NoneType_list, v_kb_NoneType_dict, v_kb_bool_bool, v_kb_bool_int, v_kb_bool_str, v_kb_bool_tuple, v_kb_bool_list, v_kb_bool_dict, v_kb_int_bool, v_kb_int_int, v_kb_int_str, v_kb_int_tuple, v_kb_int_list, v_kb_int_dict, v_kb_str_bool, v_kb_str_int, v_kb_str_str, v_kb_str_tuple, v_kb_str_list, v_kb_str_dict, v_kb_tuple_bool, v_kb_tuple_int, v_kb_tuple_str, v_kb_tuple_tuple, v_kb_tuple_list, v_kb_tuple_dict, v_kb_list_bool, v_kb_list_int, v_kb_list_str, v_kb_list_tuple, v_kb_list_list, v_kb_list_dict, v_kb_dict_bool, v_kb_dict_int, v_kb_dict_str, v_kb_dict_tuple, v_kb_dict_list, v_kb_dict_dict, v_isi_non, v_isi_bl, v_isi_int, v_isi_str, v_isi_tup, v_isi_lst, v_isi_dct, v_eq_bb, v_ne_bb, v_isNone_non, v_isNone_bl, v_isNone_int, v_isNone_str, v_isNone_tup, v_isNone_lst, List.map_cons, List.map_nil, List.length_cons, List.length_nil, List.cons_append, List.nil_append, List.replicate_succ, List.replicate_zero, List.getElem?_cons_zero, List.getElem?_cons_succ, List.set_cons_zero, List.set_cons_succ, Option.map_some, Nat.reduceSub, Nat.reduceAdd, Nat.reduceLT, Nat.reduceLeDiff, bigN, e0, Int.sub_self, a0, if_true, p]
theorem e_told2_bad {x y : D} (h : F_check_ratio [x, y] = .err 2) : F_law_told [.int 2, .tup [x, y]] = .ok (.dat (.str "not right")) := by
  have e0 : ((2 : Int) == 0) = false := rfl
  have a0 : ∀ x y : D, L2.atI [x, y] 1 = some y := fun _ _ => rfl
  have e1 : (2 : Int) - 1 = 1 := rfl
  have e3 : ¬ (11 : Nat) = 10 := by decide
  have p : F_near_ratios [x, y] = .err 2 := by
    unfold F_near_ratios M_near_ratios
    simp only [v_bok, v_berr, v_sok, v_serr, v_nx, v_rt, v_bk, v_ct, v_er, v_ofs, v_var, v_slot_dat, v_slot_own, v_c, v_bin, v_kbin, v_op2, v_pk2, v_un, v_op1, v_pk1, v_peek_dat, v_peek_fr, v_peek_slot, v_pslot_own, v_pslot_dat, v_cnl, v_test, v_ktest, v_andT, v_kand1, v_kand0, v_orT, v_kor1, v_kor0, v_notT, v_knotT, v_and, v_kAnd1, v_kAnd0, v_or, v_kOr1, v_kOr0, v_not, v_knot, v_if, v_kif1, v_kif0, v_isNone, v_notNone, v_nil, v_cons, v_kcons, v_kcons2, v_fast, v_kfast, v_all0, v_all1, v_kall, v_kall2, v_force_dat, v_force_fr, v_force_slot, v_fslot_own, v_fslot_dat, v_tup, v_ktup, v_lst, v_klst, v_call, v_callF, v_at_ok, v_at_err, v_callB, v_vown, v_kcallB, v_vB, v_atB, v_meth, v_vM, v_methAt, v_vM2, v_vM3, v_append, v_pop, v_cb, v_kcb, v_pkL, v_peeks0, v_peeks1, v_cons22, v_isi, v_sl, v_ksl, v_ksl2, v_ksl3, v_slE_l, v_slE_t, v_slE_r, v_some, v_ksome, v_none, v_revSl, v_iter, v_it_l, v_it_r, v_it_t, v_rng1, v_rng2, v_lc, v_klc, v_klc2, v_yes, v_callV, v_vV, v_vV2, v_seq, v_skip, v_break, v_cont, v_raise, v_drop, v_kdrop, v_ret, v_ret_dat, v_ret_fr, v_ret_slot, v_rslot_own, v_rslot_dat, v_retN, v_ifS, v_kifS1, v_kifS0, v_set, v_put_dat, v_put_fr, v_put_slot, v_kput, v_asg, v_kasg, v_kasg2, v_tgN, v_tgNil, v_tgCons, v_ktg, v_tgT, v_par, v_kpar, v_kpar1, v_kpar2, v_kpar3, v_fix_dat, v_fix_fr, v_fix_slot, v_kfix, v_aug, v_aslot, v_kaug, v_kaug2, v_for, v_try, v_ktry_nx, v_ktry_rt, v_ktry_er, v_ktry2, v_ktry3, v_runF, v_endF_rt, v_endF_nx, v_endF_er, v_runB, v_endB_rt, v_endB_nx, v_add, v_sub, v_mul, v_mod, v_fdiv, v_neg, v_lt, v_cmp, v_eq, v_ne, v_absD, v_int1, v_len_l, v_len_t, v_len_r, v_list_l, v_list_t, v_rev_l, v_rev_r, v_ixt, v_ixl, v_ixr, v_kb_NoneType_bool, v_kb_NoneType_int, v_kb_NoneType_str, v_kb_NoneType_tuple, v_kb_NoneType_list, v_kb_NoneType_dict, v_kb_bool_bool, v_kb_bool_int, v_kb_bool_str, v_kb_bool_tuple, v_kb_bool_list, v_kb_bool_dict, v_kb_int_bool, v_kb_int_int, v_kb_int_str, v_kb_int_tuple, v_kb_int_list, v_kb_int_dict, v_kb_str_bool, v_kb_str_int, v_kb_str_str, v_kb_str_tuple, v_kb_str_list, v_kb_str_dict, v_kb_tuple_bool, v_kb_tuple_int, v_kb_tuple_str, v_kb_tuple_tuple, v_kb_tuple_list, v_kb_tuple_dict, v_kb_list_bool, v_kb_list_int, v_kb_list_str, v_kb_list_tuple, v_kb_list_list, v_kb_list_dict, v_kb_dict_bool, v_kb_dict_int, v_kb_dict_str, v_kb_dict_tuple, v_kb_dict_list, v_kb_dict_dict, v_isi_non, v_isi_bl, v_isi_int, v_isi_str, v_isi_tup, v_isi_lst, v_isi_dct, v_eq_bb, v_ne_bb, v_isNone_non, v_isNone_bl, v_isNone_int, v_isNone_str, v_isNone_tup, v_isNone_lst, List.map_cons, List.map_nil, List.length_cons, List.length_nil, List.cons_append, List.nil_append, List.replicate_succ, List.replicate_zero, List.getElem?_cons_zero, List.getElem?_cons_succ, List.set_cons_zero, List.set_cons_succ, Option.map_some, Nat.reduceSub, Nat.reduceAdd, Nat.reduceLT, Nat.reduceLeDiff, bigN, h]
  unfold F_law_told M_law_told
  simp only [v_bok, v_berr, v_sok, v_serr, v_nx, v_rt, v_bk, v_ct, v_er, v_ofs, v_var, v_slot_dat, v_slot_own, v_c, v_bin, v_kbin, v_op2, v_pk2, v_un, v_op1, v_pk1, v_peek_dat, v_peek_fr, v_peek_slot, v_pslot_own, v_pslot_dat, v_cnl, v_test, v_ktest, v_andT, v_kand1, v_kand0, v_orT, v_kor1, v_kor0, v_notT, v_knotT, v_and, v_kAnd1, v_kAnd0, v_or, v_kOr1, v_kOr0, v_not, v_knot, v_if, v_kif1, v_kif0, v_isNone, v_notNone, v_nil, v_cons, v_kcons, v_kcons2, v_fast, v_kfast, v_all0, v_all1, v_kall, v_kall2, v_force_dat, v_force_fr, v_force_slot, v_fslot_own, v_fslot_dat, v_tup, v_ktup, v_lst, v_klst, v_call, v_callF, v_at_ok, v_at_err, v_callB, v_vown, v_kcallB, v_vB, v_atB, v_meth, v_vM, v_methAt, v_vM2, v_vM3, v_append, v_pop, v_cb, v_kcb, v_pkL, v_peeks0, v_peeks1, v_cons22, v_isi, v_sl, v_ksl, v_ksl2, v_ksl3, v_slE_l, v_slE_t, v_slE_r, v_some, v_ksome, v_none, v_revSl, v_iter, v_it_l, v_it_r, v_it_t, v_rng1, v_rng2, v_lc, v_klc, v_klc2, v_yes, v_callV, v_vV, v_vV2, v_seq, v_skip, v_break, v_cont, v_raise, v_drop, v_kdrop, v_ret, v_ret_dat, v_ret_fr, v_ret_slot, v_rslot_own, v_rslot_dat, v_retN, v_ifS, v_kifS1, v_kifS0, v_set, v_put_dat, v_put_fr, v_put_slot, v_kput, v_asg, v_kasg, v_kasg2, v_tgN, v_tgNil, v_tgCons, v_ktg, v_tgT, v_par, v_kpar, v_kpar1, v_kpar2, v_kpar3, v_fix_dat, v_fix_fr, v_fix_slot, v_kfix, v_aug, v_aslot, v_kaug, v_kaug2, v_for, v_try, v_ktry_nx, v_ktry_rt, v_ktry_er, v_ktry2, v_ktry3, v_runF, v_endF_rt, v_endF_nx, v_endF_er, v_runB, v_endB_rt, v_endB_nx, v_add, v_sub, v_mul, v_mod, v_fdiv, v_neg, v_lt, v_cmp, v_eq, v_ne, v_absD, v_int1, v_len_l, v_len_t, v_len_r, v_list_l, v_list_t, v_rev_l, v_rev_r, v_ixt, v_ixl, v_ixr, v_kb_NoneType_bool, v_kb_NoneType_int, v_kb_NoneType_str, v_kb_NoneType_tuple, v_kb_NoneType_list, v_kb_NoneType_dict, v_kb_bool_bool, v_kb_bool_int, v_kb_bool_str, v_kb_bool_tuple, v_kb_bool_list, v_kb_bool_dict, v_kb_int_bool, v_kb_int_int, v_kb_int_str, v_kb_int_tuple, v_kb_int_list, v_kb_int_dict, v_kb_str_bool, v_kb_str_int, v_kb_str_str, v_kb_str_tuple, v_kb_str_list, v_kb_str_dict, v_kb_tuple_bool, v_kb_tuple_int, v_kb_tuple_str, v_kb_tuple_tuple, v_kb_tuple_list, v_kb_tuple_dict, v_kb_list_bool, v_kb_list_int, v_kb_list_str, v_kb_list_tuple, v_kb_list_list, v_kb_list_dict, v_kb_dict_bool, v_kb_dict_int, v_kb_dict_str, v_kb_dict_tuple, v_kb_dict_list, v_kb_dict_dict, v_isi_non, v_isi_bl, v_isi_int, v_isi_str, v_isi_tup, v_isi_lst, v_isi_dct, v_eq_bb, v_ne_bb, v_isNone_non, v_isNone_bl, v_isNone_int, v_isNone_str, v_isNone_tup, v_isNone_lst, List.map_cons, List.map_nil, List.length_cons, List.length_nil, List.cons_append, List.nil_append, List.replicate_succ, List.replicate_zero, List.getElem?_cons_zero, List.getElem?_cons_succ, List.set_cons_zero, List.set_cons_succ, Option.map_some, Nat.reduceSub, Nat.reduceAdd, Nat.reduceLT, Nat.reduceLeDiff, bigN, e0, e1, a0, if_neg e3, if_true, p]
def WR : List D := [.tup [.int (-1), .int 1, .int 1, .int 1], .tup [.int 1, .int 0, .int 1, .int 1], .tup [.int 1, .int (-1), .int 1, .int 1], .tup [.bl true, .int 1, .int 1, .int 1], .tup [.int 1, .int 1, .non, .int 1], .tup [.int 1, .int 1, .int 1, .str "1"], .tup [.int 1, .bl true, .int 1, .int 1]]
def BD : List D := [.tup [.int (-1), .int 1], .tup [.int 1, .int 0], .tup [.int 1, .int (-1)], .tup [.bl true, .int 1], .tup [.int 1, .non], .tup [.str "1", .int 1]]
theorem w_bad : ∀ x ∈ WR, F_law_told [.int 0, x] = .ok (.dat (.str "not right")) := by
  intro x hx
  simp only [WR, List.mem_cons, List.not_mem_nil, or_false] at hx
  have pl : ∀ {x y z w : D}, plain x = true → plain y = true → plain z = true → plain w = true → ∀ d ∈ [x, y, z, w], plain d = true := by
    intro x y z w h1 h2 h3 h4 d hd
    simp only [List.mem_cons, List.not_mem_nil, or_false] at hd
    rcases hd with rfl | rfl | rfl | rfl <;> assumption
  rcases hx with rfl | rfl | rfl | rfl | rfl | rfl | rfl
  · exact e_told0_bad (e_fs_bad2 (by decide))
  · exact e_told0_bad (e_fs_bad2 (by decide))
  · exact e_told0_bad (e_fs_bad2 (by decide))
  · exact e_told0_bad (e_fs_bad (pl rfl rfl rfl rfl) rfl)
  · exact e_told0_bad (e_fs_bad (pl rfl rfl rfl rfl) rfl)
  · exact e_told0_bad (e_fs_bad (pl rfl rfl rfl rfl) rfl)
  · exact e_told0_bad (e_fs_bad (pl rfl rfl rfl rfl) rfl)
theorem b_bad : ∀ x ∈ BD, F_law_told [.int 1, x] = .ok (.dat (.str "not right")) ∧ F_law_told [.int 2, x] = .ok (.dat (.str "not right")) := by
  intro x hx
  simp only [BD, List.mem_cons, List.not_mem_nil, or_false] at hx
  have pl : ∀ {x y : D}, plain x = true → plain y = true → ∀ d ∈ [x, y], plain d = true := by
    intro x y h1 h2 d hd
    simp only [List.mem_cons, List.not_mem_nil, or_false] at hd
    rcases hd with rfl | rfl <;> assumption
  have key : ∀ {x y : D}, F_check_ratio [x, y] = .err 2 → F_law_told [.int 1, .tup [x, y]] = .ok (.dat (.str "not right")) ∧ F_law_told [.int 2, .tup [x, y]] = .ok (.dat (.str "not right")) := fun h => ⟨e_told1_bad h, e_told2_bad h⟩
  rcases hx with rfl | rfl | rfl | rfl | rfl | rfl
  · exact key (e_cr_bad2 (by decide))
  · exact key (e_cr_bad2 (by decide))
  · exact key (e_cr_bad2 (by decide))
  · exact key (e_cr_bad (pl rfl rfl) rfl)
  · exact key (e_cr_bad (pl rfl rfl) rfl)
  · exact key (e_cr_bad (pl rfl rfl) rfl)
theorem l_told {s : D} {l : List Int} {x2 x3 x4 x5 x6 x7 x8 x9 x10 x11 x12 x13 x14 x15 x16 x17 : SV} (w : Int) (xs : List D) (hl : xs.length ≤ 1000) (h : ∀ x ∈ xs, F_law_told [.int w, x] = .ok (.dat (.str "not right"))) :
    compL [13] (tgN 13) mYes (mCall 2 F_law_told (mCons (mC (.int w)) (mCons (mVar 13) mNil))) xs [] (lS s l x2 x3 x4 x5 x6 x7 x8 x9 x10 x11 x12 x13 x14 x15 x16 x17) = .ok (xs.map fun _ => .str "not right") (lS s l x2 x3 x4 x5 x6 x7 x8 x9 x10 x11 x12 x13 x14 x15 x16 x17) := by
  refine comp_all _ (fun x hx => ?_) (by show _ ≤ 1000000; omega)
  refine ⟨lS s l x2 x3 x4 x5 x6 x7 x8 x9 x10 x11 x12 (.dat x) x14 x15 x16 x17, lS s l x2 x3 x4 x5 x6 x7 x8 x9 x10 x11 x12 (.dat x) x14 x15 x16 x17, .dat (.str "not right"), lS s l x2 x3 x4 x5 x6 x7 x8 x9 x10 x11 x12 (.dat x) x14 x15 x16 x17, lS s l x2 x3 x4 x5 x6 x7 x8 x9 x10 x11 x12 (.dat x) x14 x15 x16 x17, rfl, rfl, ?_, rfl, rfl⟩
  have := h x hx
  simp only [v_bok, v_berr, v_sok, v_serr, v_nx, v_rt, v_bk, v_ct, v_er, v_ofs, v_var, v_slot_dat, v_slot_own, v_c, v_bin, v_kbin, v_op2, v_pk2, v_un, v_op1, v_pk1, v_peek_dat, v_peek_fr, v_peek_slot, v_pslot_own, v_pslot_dat, v_cnl, v_test, v_ktest, v_andT, v_kand1, v_kand0, v_orT, v_kor1, v_kor0, v_notT, v_knotT, v_and, v_kAnd1, v_kAnd0, v_or, v_kOr1, v_kOr0, v_not, v_knot, v_if, v_kif1, v_kif0, v_isNone, v_notNone, v_nil, v_cons, v_kcons, v_kcons2, v_fast, v_kfast, v_all0, v_all1, v_kall, v_kall2, v_force_dat, v_force_fr, v_force_slot, v_fslot_own, v_fslot_dat, v_tup, v_ktup, v_lst, v_klst, v_call, v_callF, v_at_ok, v_at_err, v_callB, v_vown, v_kcallB, v_vB, v_atB, v_meth, v_vM, v_methAt, v_vM2, v_vM3, v_append, v_pop, v_cb, v_kcb, v_pkL, v_peeks0, v_peeks1, v_cons22, v_isi, v_sl, v_ksl, v_ksl2, v_ksl3, v_slE_l, v_slE_t, v_slE_r, v_some, v_ksome, v_none, v_revSl, v_iter, v_it_l, v_it_r, v_it_t, v_rng1, v_rng2, v_lc, v_klc, v_klc2, v_yes, v_callV, v_vV, v_vV2, v_seq, v_skip, v_break, v_cont, v_raise, v_drop, v_kdrop, v_ret, v_ret_dat, v_ret_fr, v_ret_slot, v_rslot_own, v_rslot_dat, v_retN, v_ifS, v_kifS1, v_kifS0, v_set, v_put_dat, v_put_fr, v_put_slot, v_kput, v_asg, v_kasg, v_kasg2, v_tgN, v_tgNil, v_tgCons, v_ktg, v_tgT, v_par, v_kpar, v_kpar1, v_kpar2, v_kpar3, v_fix_dat, v_fix_fr, v_fix_slot, v_kfix, v_aug, v_aslot, v_kaug, v_kaug2, v_for, v_try, v_ktry_nx, v_ktry_rt, v_ktry_er, v_ktry2, v_ktry3, v_runF, v_endF_rt, v_endF_nx, v_endF_er, v_runB, v_endB_rt, v_endB_nx, v_add, v_sub, v_mul, v_mod, v_fdiv, v_neg, v_lt, v_cmp, v_eq, v_ne, v_absD, v_int1, v_len_l, v_len_t, v_len_r, v_list_l, v_list_t, v_rev_l, v_rev_r, v_ixt, v_ixl, v_ixr, v_kb_NoneType_bool, v_kb_NoneType_int, v_kb_NoneType_str, v_kb_NoneType_tuple, v_kb_NoneType_list, v_kb_NoneType_dict, v_kb_bool_bool, v_kb_bool_int, v_kb_bool_str, v_kb_bool_tuple, v_kb_bool_list, v_kb_bool_dict, v_kb_int_bool, v_kb_int_int, v_kb_int_str, v_kb_int_tuple, v_kb_int_list, v_kb_int_dict, v_kb_str_bool, v_kb_str_int, v_kb_str_str, v_kb_str_tuple, v_kb_str_list, v_kb_str_dict, v_kb_tuple_bool, v_kb_tuple_int, v_kb_tuple_str, v_kb_tuple_tuple, v_kb_tuple_list, v_kb_tuple_dict, v_kb_list_bool, v_kb_list_int, v_kb_list_str, v_kb_list_tuple, v_kb_list_list, v_kb_list_dict, v_kb_dict_bool, v_kb_dict_int, v_kb_dict_str, v_kb_dict_tuple, v_kb_dict_list, v_kb_dict_dict, v_isi_non, v_isi_bl, v_isi_int, v_isi_str, v_isi_tup, v_isi_lst, v_isi_dct, v_eq_bb, v_ne_bb, v_isNone_non, v_isNone_bl, v_isNone_int, v_isNone_str, v_isNone_tup, v_isNone_lst, List.map_cons, List.map_nil, List.length_cons, List.length_nil, List.cons_append, List.nil_append, List.replicate_succ, List.replicate_zero, List.getElem?_cons_zero, List.getElem?_cons_succ, List.set_cons_zero, List.set_cons_succ, Option.map_some, Nat.reduceSub, Nat.reduceAdd, Nat.reduceLT, Nat.reduceLeDiff, bigN, lS, this]
end Lw

set_option maxHeartbeats 4000000
namespace Lw
open PySem DL
theorem v_add_l {a b : List D} (h : a.length + b.length ≤ 1000000) : addD (.lst a) (.lst b) = some (.fr (.lst (a ++ b))) := if_pos h
section
variable {s : D} {l : List Int} {x2 x3 x4 x5 x6 x7 x8 x9 x10 x11 x12 x13 x14 x15 x16 x17 : SV}
theorem l_told_w : compL [13] (tgN 13) mYes (mCall 2 F_law_told (mCons (mC (.int 0)) (mCons (mVar 13) mNil))) WR [] [.dat s, .own (.lst (l.map D.int)), x2, x3, x4, x5, x6, x7, x8, x9, x10, x11, x12, x13, x14, x15, x16, x17] = .ok (WR.map fun _ => .str "not right") [.dat s, .own (.lst (l.map D.int)), x2, x3, x4, x5, x6, x7, x8, x9, x10, x11, x12, x13, x14, x15, x16, x17] := l_told 0 WR (by decide) w_bad
theorem l_told_1 : compL [13] (tgN 13) mYes (mCall 2 F_law_told (mCons (mC (.int 1)) (mCons (mVar 13) mNil))) BD [] [.dat s, .own (.lst (l.map D.int)), x2, x3, x4, x5, x6, x7, x8, x9, x10, x11, x12, x13, x14, x15, x16, x17] = .ok (BD.map fun _ => .str "not right") [.dat s, .own (.lst (l.map D.int)), x2, x3, x4, x5, x6, x7, x8, x9, x10, x11, x12, x13, x14, x15, x16, x17] := l_told 1 BD (by decide) fun x hx => (b_bad x hx).1
theorem l_told_2 : compL [13] (tgN 13) mYes (mCall 2 F_law_told (mCons (mC (.int 2)) (mCons (mVar 13) mNil))) BD [] [.dat s, .own (.lst (l.map D.int)), x2, x3, x4, x5, x6, x7, x8, x9, x10, x11, x12, x13, x14, x15, x16, x17] = .ok (BD.map fun _ => .str "not right") [.dat s, .own (.lst (l.map D.int)), x2, x3, x4, x5, x6, x7, x8, x9, x10, x11, x12, x13, x14, x15, x16, x17] := l_told 2 BD (by decide) fun x hx => (b_bad x hx).2
end
theorem good_rows (n : Nat) (h : n ≤ 1000) : Good 2 (.lst (List.replicate n (.str "not right"))) := by
  refine ⟨by simp; omega, fun x hx => ?_⟩
  rw [List.eq_of_mem_replicate hx]
  exact (by decide +kernel : PyData.strOk "not right" = true)
theorem fin_eq : eqD (.lst (((WR.map fun _ => D.str "not right") ++ (BD.map fun _ => D.str "not right")) ++ (BD.map fun _ => D.str "not right"))) (.lst (List.replicate (19 : Int).toNat [D.str "not right"]).flatten) = some (.dat (.bl true)) :=
  eqD_refl (good_rows 19 (by decide)) (by decide)
theorem mul19 : mulD (.lst [D.str "not right"]) (.int 19) = some (.fr (.lst (List.replicate (19 : Int).toNat [D.str "not right"]).flatten)) := rfl
theorem law_true : ∀ ns : List Int, ns.length ≤ 63 → F_law [.rol (ns.map D.int)] = .ok (.dat (.bl true)) := by
  intro ns hns
  obtain ⟨l0, g0, hd⟩ := e_draws hns
  obtain ⟨l1, y2, y3, y4, y5, y6, y7, y8, o1, g1⟩ := l_one (s := .rol (ns.map D.int)) (l := l0) (x2 := .emp) (x3 := .emp) (x4 := .emp) (x5 := .emp) (x6 := .emp) (x7 := .emp) (x8 := .emp) (x9 := .emp) (x10 := .emp) (x11 := .emp) (x12 := .emp) (x13 := .emp) (x14 := .emp) (x15 := .emp) (x16 := .emp) (x17 := .emp) g0
  obtain ⟨great, l2, p2, m2, g2⟩ := e_pickI (ds := [.int 1000000, .int 1000000000000, .int 1000000000000000000]) [1000000, 1000000000000, 1000000000000000000] (by simp) g1
  have hg : 1000000 ≤ great ∧ great ≤ 1000000000000000000 := by simp at m2; omega
  obtain ⟨tn, l3, p3, q3, r3, g3⟩ := e_take (b := 997) (by decide) g2
  obtain ⟨tm, l4, p4, q4, r4, g4⟩ := e_take (b := 9973) (by decide) g3
  obtain ⟨ta, l5, p5, q5, r5, g5⟩ := e_take (b := 997) (by decide) g4
  obtain ⟨c, l6, p6, q6, r6, g6⟩ := e_take (b := 1000000) (by decide) g5
  have f7 : great.fdiv 7 = great / 7 := fd (by decide)
  have f3 : great.fdiv 3 = great / 3 := fd (by decide)
  generalize hn : great + tn = n
  generalize hm : 1 + great / 7 + tm = m
  generalize ha : great / 3 + ta = a
  have bn : 1000000 ≤ n ∧ n < 1000000000000001000 := by omega
  have bm : 1 ≤ m ∧ m < 1000000000000000000 := by omega
  have ba : 0 ≤ a ∧ a < 1000000000000000000 := by omega
  have f2 : n.fdiv 2 = n / 2 := fd (by decide)
  obtain ⟨part, l7, p7, m7, g7⟩ := e_pickI (ds := [.int 1, .int 1000, .int (n / 2), .int (n - 1)]) [1, 1000, n / 2, n - 1] (by simp) g6
  have bp : 0 ≤ part ∧ part ≤ n := by simp at m7; omega
  have hN : ((n.toNat : Nat) : Int) = n := Int.toNat_of_nonneg (by omega)
  have t1 := e_told0 (n := n) (m := m) (a := a) (c := c) ⟨by omega, by omega, by omega, by omega, by omega, by omega⟩
  have t2 := e_told0 (n := part) (m := m) (a := a) (c := c) ⟨by omega, by omega, by omega, by omega, by omega, by omega⟩
  have t3 := e_told0 (n := n - part) (m := m) (a := a) (c := c + a * part) ⟨by omega, by omega, by omega, by omega, by omega, by omega⟩
  have t4 := e_told0 (n := n) (m := m) (a := a + m) (c := c) ⟨by omega, by omega, by omega, by omega, by omega, by omega⟩
  have t5 := e_told0 (n := n) (m := m) (a := a) (c := c - m) ⟨by omega, by omega, by omega, by omega, by omega, by omega⟩
  have t6 := e_told0 (n := n) (m := m) (a := -a) (c := c + a * (n - 1)) ⟨by omega, by omega, by omega, by omega, by omega, by omega⟩
  have t7 := e_told0 (n := n) (m := 1) (a := a) (c := c) ⟨by omega, by omega, by omega, by omega, by omega, by omega⟩
  have w23 : S m a c part.toNat + S m a (c + a * part) (n - part).toNat = S m a c n.toNat := by
    have := S_add' (m := m) (a := a) (c := c) (n := part) (k := n - part) (by omega) (by omega)
    rw [show part + (n - part) = n by omega] at this
    exact this.symm
  have w4 : S m (a + m) c n.toNat = S m a c n.toNat + n * (n - 1) / 2 := by
    have := S_shift (m := m) (by omega) a c 1 0 n.toNat
    rw [Int.mul_one, Int.mul_zero, Int.add_zero, ← T_div, hN] at this
    rw [this]
    omega
  have w5 : S m a (c - m) n.toNat = S m a c n.toNat - n := by
    have := S_shift (m := m) (by omega) a c 0 (-1) n.toNat
    rw [Int.mul_zero, Int.add_zero, hN, show c + m * -1 = c - m by omega] at this
    rw [this]
    omega
  have w6 : S m (-a) (c + a * (n - 1)) n.toNat = S m a c n.toNat := by
    have := S_rev m a c n.toNat
    rw [hN] at this
    exact this
  have w7 : S 1 a c n.toNat = a * (n * (n - 1) / 2) + c * n := by
    rw [S_one, ← T_div, hN]
  have k1 : L2.CMul a part := cK (by omega) (by omega)
  have k2 : L2.CMul n (n - 1) := c_l (by omega) (by omega)
  have k3 : L2.CMul a (n - 1) := cK (by omega) (by omega)
  have k4 : L2.CMul a (n * (n - 1) / 2) := c_l (by omega) (by omega)
  have k5 : L2.CMul c n := cK (by omega) (by omega)
  have sm : F_law_same 6 [.lst [.int (S m a c n.toNat + n * (n - 1) / 2), .int (S m a c n.toNat - n)], .lst [.int (S m a c n.toNat + n * (n - 1) / 2), .int (S m a c n.toNat - n)]] = .ok (.dat (.bl true)) := e_same 6 _ ⟨by simp, fun x hx => by
    simp only [List.mem_cons, List.not_mem_nil, or_false] at hx
    rcases hx with rfl | rfl <;> exact trivial⟩
  obtain ⟨l8, z2, z3, z5, z12, o2, g8⟩ := l_two (s := .rol (ns.map D.int)) (l := l7) (x2 := y2) (x3 := .dat (.int n)) (x4 := .dat (.int m)) (x5 := y5) (x6 := .dat (.int a)) (x7 := .dat (.int c)) (x8 := y8) (x9 := .dat (.int great)) (x10 := .dat (.int (S m a c n.toNat))) (x11 := .dat (.int part)) (x12 := .emp) (x13 := .emp) (x14 := .emp) (x15 := .emp) (x16 := .emp) (x17 := .emp) g7
  obtain ⟨tt, l9, p9, q9, r9, g9⟩ := e_take (b := 30) (by decide) g8
  obtain ⟨u2, one, other, o3, h1, h2, h3, h4⟩ := l_fib (s := .rol (ns.map D.int)) (l := l9) (x2 := z2) (x3 := z3) (x4 := .dat (.int m)) (x5 := z5) (x6 := .dat (.int a)) (x7 := .dat (.int c)) (x8 := y8) (x9 := .dat (.int great)) (x10 := .dat (.int (S m a c n.toNat))) (x11 := .dat (.int part)) (x12 := z12) (x15 := .emp) (x16 := .emp) (x17 := .emp) tt.toNat (by omega)
  have d1 := e_due (c := .lst (l9.map D.int)) h2 h3 h4
  have d2 := e_due (c := .lst (l9.map D.int)) h1 h4 h3
  have r6_ : -1000000000 ≤ (6 : Int) ∧ (6 : Int) < 1000000000 := by decide
  have r4_ : -1000000000 ≤ (4 : Int) ∧ (4 : Int) < 1000000000 := by decide
  have rt : -1000000000 ≤ tt ∧ tt < 1000000000 := by omega
  unfold lS at o1 o2 o3
  have cw : ∀ (x2 x3 x4 x5 x6 x7 x8 x9 x10 x11 x12 x13 x14 x15 x16 x17 : SV), _ := fun x2 x3 x4 x5 x6 x7 x8 x9 x10 x11 x12 x13 x14 x15 x16 x17 => l_told_w (s := .rol (ns.map D.int)) (l := l9) (x2 := x2) (x3 := x3) (x4 := x4) (x5 := x5) (x6 := x6) (x7 := x7) (x8 := x8) (x9 := x9) (x10 := x10) (x11 := x11) (x12 := x12) (x13 := x13) (x14 := x14) (x15 := x15) (x16 := x16) (x17 := x17)
  have c1 : ∀ (x2 x3 x4 x5 x6 x7 x8 x9 x10 x11 x12 x13 x14 x15 x16 x17 : SV), _ := fun x2 x3 x4 x5 x6 x7 x8 x9 x10 x11 x12 x13 x14 x15 x16 x17 => l_told_1 (s := .rol (ns.map D.int)) (l := l9) (x2 := x2) (x3 := x3) (x4 := x4) (x5 := x5) (x6 := x6) (x7 := x7) (x8 := x8) (x9 := x9) (x10 := x10) (x11 := x11) (x12 := x12) (x13 := x13) (x14 := x14) (x15 := x15) (x16 := x16) (x17 := x17)
  have c2 : ∀ (x2 x3 x4 x5 x6 x7 x8 x9 x10 x11 x12 x13 x14 x15 x16 x17 : SV), _ := fun x2 x3 x4 x5 x6 x7 x8 x9 x10 x11 x12 x13 x14 x15 x16 x17 => l_told_2 (s := .rol (ns.map D.int)) (l := l9) (x2 := x2) (x3 := x3) (x4 := x4) (x5 := x5) (x6 := x6) (x7 := x7) (x8 := x8) (x9 := x9) (x10 := x10) (x11 := x11) (x12 := x12) (x13 := x13) (x14 := x14) (x15 := x15) (x16 := x16) (x17 := x17)
  have hw : WR = [.tup [.int (-1), .int 1, .int 1, .int 1], .tup [.int 1, .int 0, .int 1, .int 1], .tup [.int 1, .int (-1), .int 1, .int 1], .tup [.bl true, .int 1, .int 1, .int 1], .tup [.int 1, .int 1, .non, .int 1], .tup [.int 1, .int 1, .int 1, .str "1"], .tup [.int 1, .bl true, .int 1, .int 1]] := rfl
  have hb : BD = [.tup [.int (-1), .int 1], .tup [.int 1, .int 0], .tup [.int 1, .int (-1)], .tup [.bl true, .int 1], .tup [.int 1, .non], .tup [.str "1", .int 1]] := rfl
  have ad1 : addD (.lst (WR.map fun _ => D.str "not right")) (.lst (BD.map fun _ => D.str "not right")) = some (.fr (.lst ((WR.map fun _ => D.str "not right") ++ (BD.map fun _ => D.str "not right")))) := v_add_l (by decide)
  have ad2 : addD (.lst ((WR.map fun _ => D.str "not right") ++ (BD.map fun _ => D.str "not right"))) (.lst (BD.map fun _ => D.str "not right")) = some (.fr (.lst ((WR.map fun _ => D.str "not right") ++ (BD.map fun _ => D.str "not right") ++ (BD.map fun _ => D.str "not right")))) := v_add_l (by decide)
  unfold F_law M_law
  simp only [v_bok, v_berr, v_sok, v_serr, v_nx, v_rt, v_bk, v_ct, v_er, v_ofs, v_var, v_slot_dat, v_slot_own, v_c, v_bin, v_kbin, v_op2, v_pk2, v_un, v_op1, v_pk1, v_peek_dat, v_peek_fr, v_peek_slot, v_pslot_own, v_pslot_dat, v_cnl, v_test, v_ktest, v_andT, v_kand1, v_kand0, v_orT, v_kor1, v_kor0, v_notT, v_knotT, v_and, v_kAnd1, v_kAnd0, v_or, v_kOr1, v_kOr0, v_not, v_knot, v_if, v_kif1, v_kif0, v_isNone, v_notNone, v_nil, v_cons, v_kcons, v_kcons2, v_fast, v_kfast, v_all0, v_all1, v_kall, v_kall2, v_force_dat, v_force_fr, v_force_slot, v_fslot_own, v_fslot_dat, v_tup, v_ktup, v_lst, v_klst, v_call, v_callF, v_at_ok, v_at_err, v_callB, v_vown, v_kcallB, v_vB, v_atB, v_meth, v_vM, v_methAt, v_vM2, v_vM3, v_append, v_pop, v_cb, v_kcb, v_pkL, v_peeks0, v_peeks1, v_cons22, v_isi, v_sl, v_ksl, v_ksl2, v_ksl3, v_slE_l, v_slE_t, v_slE_r, v_some, v_ksome, v_none, v_revSl, v_iter, v_it_l, v_it_r, v_it_t, v_rng1, v_rng2, v_lc, v_klc, v_klc2, v_yes, v_callV, v_vV, v_vV2, v_seq, v_skip, v_break, v_cont, v_raise, v_drop, v_kdrop, v_ret, v_ret_dat, v_ret_fr, v_ret_slot, v_rslot_own, v_rslot_dat, v_retN, v_ifS, v_kifS1, v_kifS0, v_set, v_put_dat, v_put_fr, v_put_slot, v_kput, v_asg, v_kasg, v_kasg2, v_tgN, v_tgNil, v_tgCons, v_ktg, v_tgT, v_par, v_kpar, v_kpar1, v_kpar2, v_kpar3, v_fix_dat, v_fix_fr, v_fix_slot, v_kfix, v_aug, v_aslot, v_kaug, v_kaug2, v_for, v_try, v_ktry_nx, v_ktry_rt, v_ktry_er, v_ktry2, v_ktry3, v_runF, v_endF_rt, v_endF_nx, v_endF_er, v_runB, v_endB_rt, v_endB_nx, v_add, v_sub, v_mul, v_mod, v_fdiv, v_neg, v_lt, v_cmp, v_eq, v_ne, v_absD, v_int1, v_len_l, v_len_t, v_len_r, v_list_l, v_list_t, v_rev_l, v_rev_r, v_ixt, v_ixl, v_ixr, v_kb_NoneType_bool, v_kb_NoneType_int, v_kb_NoneType_str, v_kb_NoneType_tuple, v_kb_NoneType_list, v_kb_NoneType_dict, v_kb_bool_bool, v_kb_bool_int, v_kb_bool_str, v_kb_bool_tuple, v_kb_bool_list, v_kb_bool_dict, v_kb_int_bool, v_kb_int_int, v_kb_int_str, v_kb_int_tuple, v_kb_int_list, v_kb_int_dict, v_kb_str_bool, v_kb_str_int, v_kb_str_str, v_kb_str_tuple, v_kb_str_list, v_kb_str_dict, v_kb_tuple_bool, v_kb_tuple_int, v_kb_tuple_str, v_kb_tuple_tuple, v_kb_tuple_list, v_kb_tuple_dict, v_kb_list_bool, v_kb_list_int, v_kb_list_str, v_kb_list_tuple, v_kb_list_list, v_kb_list_dict, v_kb_dict_bool, v_kb_dict_int, v_kb_dict_str, v_kb_dict_tuple, v_kb_dict_list, v_kb_dict_dict, v_isi_non, v_isi_bl, v_isi_int, v_isi_str, v_isi_tup, v_isi_lst, v_isi_dct, v_eq_bb, v_ne_bb, v_isNone_non, v_isNone_bl, v_isNone_int, v_isNone_str, v_isNone_tup, v_isNone_lst, List.map_cons, List.map_nil, List.length_cons, List.length_nil, List.cons_append, List.nil_append, List.replicate_succ, List.replicate_zero, List.getElem?_cons_zero, List.getElem?_cons_succ, List.set_cons_zero, List.set_cons_succ, Option.map_some, Nat.reduceSub, Nat.reduceAdd, Nat.reduceLT, Nat.reduceLeDiff, bigN, hd, v_rng1 r6_, o1, pow6, pow12, pow18, p2, p3, p4, p5, p6, f7, f3, v_fdiv (show (0 : Int) < 7 by decide) (show (7 : Int) < 2 ^ 250 by decide), v_fdiv (show (0 : Int) < 3 by decide) (show (3 : Int) < 2 ^ 250 by decide), v_fdiv (show (0 : Int) < 2 by decide) (show (2 : Int) < 2 ^ 250 by decide), hn, hm, ha, f2, fd (show (0 : Int) ≤ 2 by decide), t1, p7, t2, v_mul k1, t3, w23, beq_self_eq_true, Bool.not_true, t4, t5, w4, w5, v_mul k2, sm, v_mul k3, t6, w6, t7, w7, v_mul k4, v_mul k5, v_rng1 r4_, o2, p9, v_rng1 rt, o3, d1, d2]
  simp only [← hw, ← hb, cw, c1, c2, v_bok, v_berr, v_sok, v_serr, v_nx, v_rt, v_bk, v_ct, v_er, v_ofs, v_var, v_slot_dat, v_slot_own, v_c, v_bin, v_kbin, v_op2, v_pk2, v_un, v_op1, v_pk1, v_peek_dat, v_peek_fr, v_peek_slot, v_pslot_own, v_pslot_dat, v_cnl, v_test, v_ktest, v_andT, v_kand1, v_kand0, v_orT, v_kor1, v_kor0, v_notT, v_knotT, v_and, v_kAnd1, v_kAnd0, v_or, v_kOr1, v_kOr0, v_not, v_knot, v_if, v_kif1, v_kif0, v_isNone, v_notNone, v_nil, v_cons, v_kcons, v_kcons2, v_fast, v_kfast, v_all0, v_all1, v_kall, v_kall2, v_force_dat, v_force_fr, v_force_slot, v_fslot_own, v_fslot_dat, v_tup, v_ktup, v_lst, v_klst, v_call, v_callF, v_at_ok, v_at_err, v_callB, v_vown, v_kcallB, v_vB, v_atB, v_meth, v_vM, v_methAt, v_vM2, v_vM3, v_append, v_pop, v_cb, v_kcb, v_pkL, v_peeks0, v_peeks1, v_cons22, v_isi, v_sl, v_ksl, v_ksl2, v_ksl3, v_slE_l, v_slE_t, v_slE_r, v_some, v_ksome, v_none, v_revSl, v_iter, v_it_l, v_it_r, v_it_t, v_rng1, v_rng2, v_lc, v_klc, v_klc2, v_yes, v_callV, v_vV, v_vV2, v_seq, v_skip, v_break, v_cont, v_raise, v_drop, v_kdrop, v_ret, v_ret_dat, v_ret_fr, v_ret_slot, v_rslot_own, v_rslot_dat, v_retN, v_ifS, v_kifS1, v_kifS0, v_set, v_put_dat, v_put_fr, v_put_slot, v_kput, v_asg, v_kasg, v_kasg2, v_tgN, v_tgNil, v_tgCons, v_ktg, v_tgT, v_par, v_kpar, v_kpar1, v_kpar2, v_kpar3, v_fix_dat, v_fix_fr, v_fix_slot, v_kfix, v_aug, v_aslot, v_kaug, v_kaug2, v_for, v_try, v_ktry_nx, v_ktry_rt, v_ktry_er, v_ktry2, v_ktry3, v_runF, v_endF_rt, v_endF_nx, v_endF_er, v_runB, v_endB_rt, v_endB_nx, v_add, v_sub, v_mul, v_mod, v_fdiv, v_neg, v_lt, v_cmp, v_eq, v_ne, v_absD, v_int1, v_len_l, v_len_t, v_len_r, v_list_l, v_list_t, v_rev_l, v_rev_r, v_ixt, v_ixl, v_ixr, v_kb_NoneType_bool, v_kb_NoneType_int, v_kb_NoneType_str, v_kb_NoneType_tuple, v_kb_NoneType_list, v_kb_NoneType_dict, v_kb_bool_bool, v_kb_bool_int, v_kb_bool_str, v_kb_bool_tuple, v_kb_bool_list, v_kb_bool_dict, v_kb_int_bool, v_kb_int_int, v_kb_int_str, v_kb_int_tuple, v_kb_int_list, v_kb_int_dict, v_kb_str_bool, v_kb_str_int, v_kb_str_str, v_kb_str_tuple, v_kb_str_list, v_kb_str_dict, v_kb_tuple_bool, v_kb_tuple_int, v_kb_tuple_str, v_kb_tuple_tuple, v_kb_tuple_list, v_kb_tuple_dict, v_kb_list_bool, v_kb_list_int, v_kb_list_str, v_kb_list_tuple, v_kb_list_list, v_kb_list_dict, v_kb_dict_bool, v_kb_dict_int, v_kb_dict_str, v_kb_dict_tuple, v_kb_dict_list, v_kb_dict_dict, v_isi_non, v_isi_bl, v_isi_int, v_isi_str, v_isi_tup, v_isi_lst, v_isi_dct, v_eq_bb, v_ne_bb, v_isNone_non, v_isNone_bl, v_isNone_int, v_isNone_str, v_isNone_tup, v_isNone_lst, List.map_cons, List.map_nil, List.length_cons, List.length_nil, List.cons_append, List.nil_append, List.replicate_succ, List.replicate_zero, List.getElem?_cons_zero, List.getElem?_cons_succ, List.set_cons_zero, List.set_cons_succ, Option.map_some, Nat.reduceSub, Nat.reduceAdd, Nat.reduceLT, Nat.reduceLeDiff, bigN, ad1, ad2, mul19, fin_eq]
end Lw

set_option maxHeartbeats 8000000
namespace Lw
open PySem PySem.Spec PyProof.Rows L2 DL
theorem all_mk {P : Program} {w : World} {K : PySem.W.Frag} {h : Heap} {mg : Str → Option Value} {fa f1 f2 f3 f5 f6 f7 f8 f9 f10 f11 f13 f14 f15 f17 f18 f19 f20 f21 f22 f23 f24 : Addr} (X : K.In h) (G : h.Ns mainGlobals mg) (hfa : mg "law" = some (.ref fa))
    {od13 an13 : Option Addr} {sl13 : Array (Option Value)} {oc13 kV13 dc13 pm13 cd13 ct13 : Value} {od14 an14 : Option Addr} {sl14 : Array (Option Value)} {oc14 kV14 dc14 pm14 cd14 ct14 : Value} {od15 an15 : Option Addr} {sl15 : Array (Option Value)} {oc15 kV15 dc15 pm15 cd15 ct15 : Value} {od3 an3 : Option Addr} {sl3 : Array (Option Value)} {oc3 kV3 dc3 pm3 cd3 ct3 : Value} {od5 an5 : Option Addr} {sl5 : Array (Option Value)} {oc5 kV5 dc5 pm5 cd5 ct5 : Value} {od6 an6 : Option Addr} {sl6 : Array (Option Value)} {oc6 kV6 dc6 pm6 cd6 ct6 : Value} {od7 an7 : Option Addr} {sl7 : Array (Option Value)} {oc7 kV7 dc7 pm7 cd7 ct7 : Value} {od8 an8 : Option Addr} {sl8 : Array (Option Value)} {oc8 kV8 dc8 pm8 cd8 ct8 : Value} {od9 an9 : Option Addr} {sl9 : Array (Option Value)} {oc9 kV9 dc9 pm9 cd9 ct9 : Value} {od10 an10 : Option Addr} {sl10 : Array (Option Value)} {oc10 kV10 dc10 pm10 cd10 ct10 : Value} {od11 an11 : Option Addr} {sl11 : Array (Option Value)} {oc11 kV11 dc11 pm11 cd11 ct11 : Value} {od18 an18 : Option Addr} {sl18 : Array (Option Value)} {oc18 kV18 dc18 pm18 cd18 ct18 : Value} {od17 an17 : Option Addr} {sl17 : Array (Option Value)} {oc17 kV17 dc17 pm17 cd17 ct17 : Value} {od20 an20 : Option Addr} {sl20 : Array (Option Value)} {oc20 kV20 dc20 pm20 cd20 ct20 : Value} {od21 an21 : Option Addr} {sl21 : Array (Option Value)} {oc21 kV21 dc21 pm21 cd21 ct21 : Value} {od22 an22 : Option Addr} {sl22 : Array (Option Value)} {oc22 kV22 dc22 pm22 cd22 ct22 : Value} {od23 an23 : Option Addr} {sl23 : Array (Option Value)} {oc23 kV23 dc23 pm23 cd23 ct23 : Value} {od19 an19 : Option Addr} {sl19 : Array (Option Value)} {oc19 kV19 dc19 pm19 cd19 ct19 : Value} {od24 an24 : Option Addr} {sl24 : Array (Option Value)} {oc24 kV24 dc24 pm24 cd24 ct24 : Value}
    (a13 : PySem.W.nsIn K mainGlobals "_law_draws" = some (some (.ref f13))) (l13 : K.lookup f13 = some ⟨oc13, od13, .func (PySem.W.fnOf "_law_draws" "_law_draws" (defArgs (topS 13)) (defBody (topS 13)) (defScope (topS 13)) .none kV13 dc13 pm13 an13 cd13 ct13), sl13⟩) (c13 : PySem.W.codeIn K cd13 "_law_draws" = true) (k13 : PySem.W.keepIn K (.ref f13) = true)
    (a14 : PySem.W.nsIn K mainGlobals "_law_take" = some (some (.ref f14))) (l14 : K.lookup f14 = some ⟨oc14, od14, .func (PySem.W.fnOf "_law_take" "_law_take" (defArgs (topS 14)) (defBody (topS 14)) (defScope (topS 14)) .none kV14 dc14 pm14 an14 cd14 ct14), sl14⟩) (c14 : PySem.W.codeIn K cd14 "_law_take" = true) (k14 : PySem.W.keepIn K (.ref f14) = true)
    (a15 : PySem.W.nsIn K mainGlobals "_law_pick" = some (some (.ref f15))) (l15 : K.lookup f15 = some ⟨oc15, od15, .func (PySem.W.fnOf "_law_pick" "_law_pick" (defArgs (topS 15)) (defBody (topS 15)) (defScope (topS 15)) .none kV15 dc15 pm15 an15 cd15 ct15), sl15⟩) (c15 : PySem.W.codeIn K cd15 "_law_pick" = true) (k15 : PySem.W.keepIn K (.ref f15) = true)
    (a3 : PySem.W.nsIn K mainGlobals "is_integer" = some (some (.ref f3))) (l3 : K.lookup f3 = some ⟨oc3, od3, .func (PySem.W.fnOf "is_integer" "is_integer" (defArgs (topS 3)) (defBody (topS 3)) (defScope (topS 3)) .none kV3 dc3 pm3 an3 cd3 ct3), sl3⟩) (c3 : PySem.W.codeIn K cd3 "is_integer" = true) (k3 : PySem.W.keepIn K (.ref f3) = true)
    (a5 : PySem.W.nsIn K mainGlobals "check_integers" = some (some (.ref f5))) (l5 : K.lookup f5 = some ⟨oc5, od5, .func (PySem.W.fnOf "check_integers" "check_integers" (defArgs (topS 5)) (defBody (topS 5)) (defScope (topS 5)) .none kV5 dc5 pm5 an5 cd5 ct5), sl5⟩) (c5 : PySem.W.codeIn K cd5 "check_integers" = true) (k5 : PySem.W.keepIn K (.ref f5) = true)
    (a6 : PySem.W.nsIn K mainGlobals "floor_by" = some (some (.ref f6))) (l6 : K.lookup f6 = some ⟨oc6, od6, .func (PySem.W.fnOf "floor_by" "floor_by" (defArgs (topS 6)) (defBody (topS 6)) (defScope (topS 6)) .none kV6 dc6 pm6 an6 cd6 ct6), sl6⟩) (c6 : PySem.W.codeIn K cd6 "floor_by" = true) (k6 : PySem.W.keepIn K (.ref f6) = true)
    (a7 : PySem.W.nsIn K mainGlobals "floor_sum" = some (some (.ref f7))) (l7 : K.lookup f7 = some ⟨oc7, od7, .func (PySem.W.fnOf "floor_sum" "floor_sum" (defArgs (topS 7)) (defBody (topS 7)) (defScope (topS 7)) .none kV7 dc7 pm7 an7 cd7 ct7), sl7⟩) (c7 : PySem.W.codeIn K cd7 "floor_sum" = true) (k7 : PySem.W.keepIn K (.ref f7) = true)
    (a8 : PySem.W.nsIn K mainGlobals "check_ratio" = some (some (.ref f8))) (l8 : K.lookup f8 = some ⟨oc8, od8, .func (PySem.W.fnOf "check_ratio" "check_ratio" (defArgs (topS 8)) (defBody (topS 8)) (defScope (topS 8)) .none kV8 dc8 pm8 an8 cd8 ct8), sl8⟩) (c8 : PySem.W.codeIn K cd8 "check_ratio" = true) (k8 : PySem.W.keepIn K (.ref f8) = true)
    (a9 : PySem.W.nsIn K mainGlobals "parts_by" = some (some (.ref f9))) (l9 : K.lookup f9 = some ⟨oc9, od9, .func (PySem.W.fnOf "parts_by" "parts_by" (defArgs (topS 9)) (defBody (topS 9)) (defScope (topS 9)) .none kV9 dc9 pm9 an9 cd9 ct9), sl9⟩) (c9 : PySem.W.codeIn K cd9 "parts_by" = true) (k9 : PySem.W.keepIn K (.ref f9) = true)
    (a10 : PySem.W.nsIn K mainGlobals "parts_of_ratio" = some (some (.ref f10))) (l10 : K.lookup f10 = some ⟨oc10, od10, .func (PySem.W.fnOf "parts_of_ratio" "parts_of_ratio" (defArgs (topS 10)) (defBody (topS 10)) (defScope (topS 10)) .none kV10 dc10 pm10 an10 cd10 ct10), sl10⟩) (c10 : PySem.W.codeIn K cd10 "parts_of_ratio" = true) (k10 : PySem.W.keepIn K (.ref f10) = true)
    (a11 : PySem.W.nsIn K mainGlobals "near_ratios" = some (some (.ref f11))) (l11 : K.lookup f11 = some ⟨oc11, od11, .func (PySem.W.fnOf "near_ratios" "near_ratios" (defArgs (topS 11)) (defBody (topS 11)) (defScope (topS 11)) .none kV11 dc11 pm11 an11 cd11 ct11), sl11⟩) (c11 : PySem.W.codeIn K cd11 "near_ratios" = true) (k11 : PySem.W.keepIn K (.ref f11) = true)
    (a18 : PySem.W.nsIn K mainGlobals "_law_told" = some (some (.ref f18))) (l18 : K.lookup f18 = some ⟨oc18, od18, .func (PySem.W.fnOf "_law_told" "_law_told" (defArgs (topS 18)) (defBody (topS 18)) (defScope (topS 18)) .none kV18 dc18 pm18 an18 cd18 ct18), sl18⟩) (c18 : PySem.W.codeIn K cd18 "_law_told" = true) (k18 : PySem.W.keepIn K (.ref f18) = true)
    (a17 : PySem.W.nsIn K mainGlobals "_law_same" = some (some (.ref f17))) (l17 : K.lookup f17 = some ⟨oc17, od17, .func (PySem.W.fnOf "_law_same" "_law_same" (defArgs (topS 17)) (defBody (topS 17)) (defScope (topS 17)) .none kV17 dc17 pm17 an17 cd17 ct17), sl17⟩) (c17 : PySem.W.codeIn K cd17 "_law_same" = true) (k17 : PySem.W.keepIn K (.ref f17) = true)
    (a20 : PySem.W.nsIn K mainGlobals "_law_share" = some (some (.ref f20))) (l20 : K.lookup f20 = some ⟨oc20, od20, .func (PySem.W.fnOf "_law_share" "_law_share" (defArgs (topS 20)) (defBody (topS 20)) (defScope (topS 20)) .none kV20 dc20 pm20 an20 cd20 ct20), sl20⟩) (c20 : PySem.W.codeIn K cd20 "_law_share" = true) (k20 : PySem.W.keepIn K (.ref f20) = true)
    (a21 : PySem.W.nsIn K mainGlobals "_law_put" = some (some (.ref f21))) (l21 : K.lookup f21 = some ⟨oc21, od21, .func (PySem.W.fnOf "_law_put" "_law_put" (defArgs (topS 21)) (defBody (topS 21)) (defScope (topS 21)) .none kV21 dc21 pm21 an21 cd21 ct21), sl21⟩) (c21 : PySem.W.codeIn K cd21 "_law_put" = true) (k21 : PySem.W.keepIn K (.ref f21) = true)
    (a22 : PySem.W.nsIn K mainGlobals "_law_is_nearer" = some (some (.ref f22))) (l22 : K.lookup f22 = some ⟨oc22, od22, .func (PySem.W.fnOf "_law_is_nearer" "_law_is_nearer" (defArgs (topS 22)) (defBody (topS 22)) (defScope (topS 22)) .none kV22 dc22 pm22 an22 cd22 ct22), sl22⟩) (c22 : PySem.W.codeIn K cd22 "_law_is_nearer" = true) (k22 : PySem.W.keepIn K (.ref f22) = true)
    (a23 : PySem.W.nsIn K mainGlobals "_law_are_ratios_due" = some (some (.ref f23))) (l23 : K.lookup f23 = some ⟨oc23, od23, .func (PySem.W.fnOf "_law_are_ratios_due" "_law_are_ratios_due" (defArgs (topS 23)) (defBody (topS 23)) (defScope (topS 23)) .none kV23 dc23 pm23 an23 cd23 ct23), sl23⟩) (c23 : PySem.W.codeIn K cd23 "_law_are_ratios_due" = true) (k23 : PySem.W.keepIn K (.ref f23) = true)
    (a19 : PySem.W.nsIn K mainGlobals "_law_sum" = some (some (.ref f19))) (l19 : K.lookup f19 = some ⟨oc19, od19, .func (PySem.W.fnOf "_law_sum" "_law_sum" (defArgs (topS 19)) (defBody (topS 19)) (defScope (topS 19)) .none kV19 dc19 pm19 an19 cd19 ct19), sl19⟩) (c19 : PySem.W.codeIn K cd19 "_law_sum" = true) (k19 : PySem.W.keepIn K (.ref f19) = true)
    (a24 : PySem.W.nsIn K mainGlobals "law" = some (some (.ref f24))) (l24 : K.lookup f24 = some ⟨oc24, od24, .func (PySem.W.fnOf "law" "law" (defArgs (topS 24)) (defBody (topS 24)) (defScope (topS 24)) .none kV24 dc24 pm24 an24 cd24 ct24), sl24⟩) (c24 : PySem.W.codeIn K cd24 "law" = true) (k24 : PySem.W.keepIn K (.ref f24) = true)
    (a1 : PySem.W.nsIn K mainGlobals "PolyError" = some (some (.ref f1)))
    (a2 : PySem.W.nsIn K mainGlobals "NotRight" = some (some (.ref f2)))
    (z_abs : PySem.W.nsIn K mainGlobals "abs" = some none)
    (z_all : PySem.W.nsIn K mainGlobals "all" = some none)
    (z_bool : PySem.W.nsIn K mainGlobals "bool" = some none)
    (z_dict : PySem.W.nsIn K mainGlobals "dict" = some none)
    (z_int : PySem.W.nsIn K mainGlobals "int" = some none)
    (z_isinstance : PySem.W.nsIn K mainGlobals "isinstance" = some none)
    (z_len : PySem.W.nsIn K mainGlobals "len" = some none)
    (z_list : PySem.W.nsIn K mainGlobals "list" = some none)
    (z_range : PySem.W.nsIn K mainGlobals "range" = some none)
    (z_reversed : PySem.W.nsIn K mainGlobals "reversed" = some none)
    (z_str : PySem.W.nsIn K mainGlobals "str" = some none)
    (z_sum : PySem.W.nsIn K mainGlobals "sum" = some none)
    (z_tuple : PySem.W.nsIn K mainGlobals "tuple" = some none)
    (x2 : PySem.W.excIn K f2 [.type "ValueError", .type "Exception", .type "BaseException", .type "object"] "ValueError.__new__" = true)
    (kc2 : PySem.W.keepIn K (.ref f2) = true)
    (s2 : PySem.W.subIn K (.ref f2) (.type "BaseException") = some true)
    (t2 : PySem.W.typeIn K (.ref f2) = some (.type "type"))
    (s1 : PySem.W.subIn K (.ref f1) (.type "BaseException") = some true)
    (i1 : PySem.W.isClsIn K f1 = true)
    (t1 : PySem.W.typeIn K (.ref f1) = some (.type "type"))
    (u2_1 : PySem.W.subIn K (.ref f2) (.ref f1) = some true)
    (hg2 : PySem.W.findIn K (.ref f2) "__getattribute__" = some (some (.builtin "BaseException.__getattribute__")))
    (hk2 : PySem.W.findIn K (.ref f2) "__getattr__" = some none)
    (hd2 : PySem.W.hasDictIn K f2 = true)
    (ha2 : PySem.W.findIn K (.ref f2) "__class__" = some (some (.builtin "object.__class__")))
    (hn : PySem.W.specialIn K (.builtin "object.__class__") "__get__" = some (some (.builtin "getset_descriptor.__get__")))
    (ht : PySem.W.takesIn K (.builtin "object.__class__") = some true)
    (hm2 : PySem.W.mroIn K f2 (.type "object") = some true) :
    ∃ fd : FuncData, (∀ (s : Shared) (v : Value), BindsTo s fd ⟨[v], []⟩ [("script", v)]) ∧ ∀ base : Heap, K.In base → base.Ns mainGlobals mg → FnOk P w K mg base (L2.CX P w) 9 fa fd ["script"] (spEnd K) := by
  have e := hfa.symm.trans (PySem.W.mg_of X G a24)
  cases e
  have F13 := fun_mk (st := topS 13) l13 c13 k13
  have B13 := F13.binds (ps := ["script"]) fun _ _ _ _ _ _ us hl => match us, hl with | [_], _ => rfl
  have F14 := fun_mk (st := topS 14) l14 c14 k14
  have B14 := F14.binds (ps := ["draws", "bound"]) fun _ _ _ _ _ _ us hl => match us, hl with | [_, _], _ => rfl
  have F15 := fun_mk (st := topS 15) l15 c15 k15
  have B15 := F15.binds (ps := ["draws", "some"]) fun _ _ _ _ _ _ us hl => match us, hl with | [_, _], _ => rfl
  have F3 := fun_mk (st := topS 3) l3 c3 k3
  have B3 := F3.binds (ps := ["value"]) fun _ _ _ _ _ _ us hl => match us, hl with | [_], _ => rfl
  have F5 := fun_mk (st := topS 5) l5 c5 k5
  have B5 := F5.binds (ps := ["values"]) fun _ _ _ _ _ _ us hl => match us, hl with | [_], _ => rfl
  have F6 := fun_mk (st := topS 6) l6 c6 k6
  have B6 := F6.binds (ps := ["n", "m", "a", "c"]) fun _ _ _ _ _ _ us hl => match us, hl with | [_, _, _, _], _ => rfl
  have F7 := fun_mk (st := topS 7) l7 c7 k7
  have B7 := F7.binds (ps := ["n", "m", "a", "c"]) fun _ _ _ _ _ _ us hl => match us, hl with | [_, _, _, _], _ => rfl
  have F8 := fun_mk (st := topS 8) l8 c8 k8
  have B8 := F8.binds (ps := ["n", "d"]) fun _ _ _ _ _ _ us hl => match us, hl with | [_, _], _ => rfl
  have F9 := fun_mk (st := topS 9) l9 c9 k9
  have B9 := F9.binds (ps := ["n", "d"]) fun _ _ _ _ _ _ us hl => match us, hl with | [_, _], _ => rfl
  have F10 := fun_mk (st := topS 10) l10 c10 k10
  have B10 := F10.binds (ps := ["n", "d"]) fun _ _ _ _ _ _ us hl => match us, hl with | [_, _], _ => rfl
  have F11 := fun_mk (st := topS 11) l11 c11 k11
  have B11 := F11.binds (ps := ["n", "d"]) fun _ _ _ _ _ _ us hl => match us, hl with | [_, _], _ => rfl
  have F18 := fun_mk (st := topS 18) l18 c18 k18
  have B18 := F18.binds (ps := ["which", "numbers"]) fun _ _ _ _ _ _ us hl => match us, hl with | [_, _], _ => rfl
  have F17 := fun_mk (st := topS 17) l17 c17 k17
  have B17 := F17.binds (ps := ["told", "due"]) fun _ _ _ _ _ _ us hl => match us, hl with | [_, _], _ => rfl
  have F20 := fun_mk (st := topS 20) l20 c20 k20
  have B20 := F20.binds (ps := ["a", "b"]) fun _ _ _ _ _ _ us hl => match us, hl with | [_, _], _ => rfl
  have F21 := fun_mk (st := topS 21) l21 c21 k21
  have B21 := F21.binds (ps := ["parts"]) fun _ _ _ _ _ _ us hl => match us, hl with | [_], _ => rfl
  have F22 := fun_mk (st := topS 22) l22 c22 k22
  have B22 := F22.binds (ps := ["n", "d", "one", "other"]) fun _ _ _ _ _ _ us hl => match us, hl with | [_, _, _, _], _ => rfl
  have F23 := fun_mk (st := topS 23) l23 c23 k23
  have B23 := F23.binds (ps := ["draws", "n", "d"]) fun _ _ _ _ _ _ us hl => match us, hl with | [_, _, _], _ => rfl
  have F19 := fun_mk (st := topS 19) l19 c19 k19
  have B19 := F19.binds (ps := ["n", "m", "a", "c"]) fun _ _ _ _ _ _ us hl => match us, hl with | [_, _, _, _], _ => rfl
  have F24 := fun_mk (st := topS 24) l24 c24 k24
  have B24 := F24.binds (ps := ["script"]) fun _ _ _ _ _ _ us hl => match us, hl with | [_], _ => rfl
  have T : Txt K mg (fun n => if n = 1 then f1 else if n = 2 then f2 else if n = 3 then f3 else if n = 5 then f5 else if n = 6 then f6 else if n = 7 then f7 else if n = 8 then f8 else if n = 9 then f9 else if n = 10 then f10 else if n = 11 then f11 else if n = 13 then f13 else if n = 14 then f14 else if n = 15 then f15 else if n = 17 then f17 else if n = 18 then f18 else if n = 19 then f19 else if n = 20 then f20 else if n = 21 then f21 else if n = 22 then f22 else if n = 23 then f23 else if n = 24 then fa else 0) (fun n => if n = 13 then PySem.W.fnOf "_law_draws" "_law_draws" (defArgs (topS 13)) (defBody (topS 13)) (defScope (topS 13)) .none kV13 dc13 pm13 an13 cd13 ct13 else if n = 14 then PySem.W.fnOf "_law_take" "_law_take" (defArgs (topS 14)) (defBody (topS 14)) (defScope (topS 14)) .none kV14 dc14 pm14 an14 cd14 ct14 else if n = 15 then PySem.W.fnOf "_law_pick" "_law_pick" (defArgs (topS 15)) (defBody (topS 15)) (defScope (topS 15)) .none kV15 dc15 pm15 an15 cd15 ct15 else if n = 3 then PySem.W.fnOf "is_integer" "is_integer" (defArgs (topS 3)) (defBody (topS 3)) (defScope (topS 3)) .none kV3 dc3 pm3 an3 cd3 ct3 else if n = 5 then PySem.W.fnOf "check_integers" "check_integers" (defArgs (topS 5)) (defBody (topS 5)) (defScope (topS 5)) .none kV5 dc5 pm5 an5 cd5 ct5 else if n = 6 then PySem.W.fnOf "floor_by" "floor_by" (defArgs (topS 6)) (defBody (topS 6)) (defScope (topS 6)) .none kV6 dc6 pm6 an6 cd6 ct6 else if n = 7 then PySem.W.fnOf "floor_sum" "floor_sum" (defArgs (topS 7)) (defBody (topS 7)) (defScope (topS 7)) .none kV7 dc7 pm7 an7 cd7 ct7 else if n = 8 then PySem.W.fnOf "check_ratio" "check_ratio" (defArgs (topS 8)) (defBody (topS 8)) (defScope (topS 8)) .none kV8 dc8 pm8 an8 cd8 ct8 else if n = 9 then PySem.W.fnOf "parts_by" "parts_by" (defArgs (topS 9)) (defBody (topS 9)) (defScope (topS 9)) .none kV9 dc9 pm9 an9 cd9 ct9 else if n = 10 then PySem.W.fnOf "parts_of_ratio" "parts_of_ratio" (defArgs (topS 10)) (defBody (topS 10)) (defScope (topS 10)) .none kV10 dc10 pm10 an10 cd10 ct10 else if n = 11 then PySem.W.fnOf "near_ratios" "near_ratios" (defArgs (topS 11)) (defBody (topS 11)) (defScope (topS 11)) .none kV11 dc11 pm11 an11 cd11 ct11 else if n = 18 then PySem.W.fnOf "_law_told" "_law_told" (defArgs (topS 18)) (defBody (topS 18)) (defScope (topS 18)) .none kV18 dc18 pm18 an18 cd18 ct18 else if n = 17 then PySem.W.fnOf "_law_same" "_law_same" (defArgs (topS 17)) (defBody (topS 17)) (defScope (topS 17)) .none kV17 dc17 pm17 an17 cd17 ct17 else if n = 20 then PySem.W.fnOf "_law_share" "_law_share" (defArgs (topS 20)) (defBody (topS 20)) (defScope (topS 20)) .none kV20 dc20 pm20 an20 cd20 ct20 else if n = 21 then PySem.W.fnOf "_law_put" "_law_put" (defArgs (topS 21)) (defBody (topS 21)) (defScope (topS 21)) .none kV21 dc21 pm21 an21 cd21 ct21 else if n = 22 then PySem.W.fnOf "_law_is_nearer" "_law_is_nearer" (defArgs (topS 22)) (defBody (topS 22)) (defScope (topS 22)) .none kV22 dc22 pm22 an22 cd22 ct22 else if n = 23 then PySem.W.fnOf "_law_are_ratios_due" "_law_are_ratios_due" (defArgs (topS 23)) (defBody (topS 23)) (defScope (topS 23)) .none kV23 dc23 pm23 an23 cd23 ct23 else if n = 19 then PySem.W.fnOf "_law_sum" "_law_sum" (defArgs (topS 19)) (defBody (topS 19)) (defScope (topS 19)) .none kV19 dc19 pm19 an19 cd19 ct19 else PySem.W.fnOf "law" "law" (defArgs (topS 24)) (defBody (topS 24)) (defScope (topS 24)) .none kV24 dc24 pm24 an24 cd24 ct24) :=
    { m13 := PySem.W.mg_of X G a13,
      f13 := F13,
      b13 := B13,
      m14 := PySem.W.mg_of X G a14,
      f14 := F14,
      b14 := B14,
      m15 := PySem.W.mg_of X G a15,
      f15 := F15,
      b15 := B15,
      m3 := PySem.W.mg_of X G a3,
      f3 := F3,
      b3 := B3,
      m5 := PySem.W.mg_of X G a5,
      f5 := F5,
      b5 := B5,
      m6 := PySem.W.mg_of X G a6,
      f6 := F6,
      b6 := B6,
      m7 := PySem.W.mg_of X G a7,
      f7 := F7,
      b7 := B7,
      m8 := PySem.W.mg_of X G a8,
      f8 := F8,
      b8 := B8,
      m9 := PySem.W.mg_of X G a9,
      f9 := F9,
      b9 := B9,
      m10 := PySem.W.mg_of X G a10,
      f10 := F10,
      b10 := B10,
      m11 := PySem.W.mg_of X G a11,
      f11 := F11,
      b11 := B11,
      m18 := PySem.W.mg_of X G a18,
      f18 := F18,
      b18 := B18,
      m17 := PySem.W.mg_of X G a17,
      f17 := F17,
      b17 := B17,
      m20 := PySem.W.mg_of X G a20,
      f20 := F20,
      b20 := B20,
      m21 := PySem.W.mg_of X G a21,
      f21 := F21,
      b21 := B21,
      m22 := PySem.W.mg_of X G a22,
      f22 := F22,
      b22 := B22,
      m23 := PySem.W.mg_of X G a23,
      f23 := F23,
      b23 := B23,
      m19 := PySem.W.mg_of X G a19,
      f19 := F19,
      b19 := B19,
      m24 := PySem.W.mg_of X G a24,
      f24 := F24,
      b24 := B24,
      m1 := PySem.W.mg_of X G a1,
      m2 := PySem.W.mg_of X G a2,
      z_abs := PySem.W.mg_none_of X G z_abs,
      z_all := PySem.W.mg_none_of X G z_all,
      z_bool := PySem.W.mg_none_of X G z_bool,
      z_dict := PySem.W.mg_none_of X G z_dict,
      z_int := PySem.W.mg_none_of X G z_int,
      z_isinstance := PySem.W.mg_none_of X G z_isinstance,
      z_len := PySem.W.mg_none_of X G z_len,
      z_list := PySem.W.mg_none_of X G z_list,
      z_range := PySem.W.mg_none_of X G z_range,
      z_reversed := PySem.W.mg_none_of X G z_reversed,
      z_str := PySem.W.mg_none_of X G z_str,
      z_sum := PySem.W.mg_none_of X G z_sum,
      z_tuple := PySem.W.mg_none_of X G z_tuple,
      x2 := x2,
      c2 := kc2,
      s2 := s2,
      t2 := t2,
      e2_1 := exm_own s1 i1 t1 u2_1,
      xc2 := ⟨hg2, hk2, s2, hd2, ha2, hn, ht, hm2⟩,
      k2_2 := kit_refl }
  exact ⟨_, fun s v => .of_eq rfl, fun base _ _ => law_of (ok_law T) law_true⟩
end Lw
open PySem PySem.W PyProof.Rows
set_option maxHeartbeats 0 in
theorem PySem.Challenge.cw_polyward_k53_whole_floor_sums_and_near_r_holds : PySem.Challenge.rw_polyward_k53_whole_floor_sums_and_near_r.Holds := by
  w_on; o_law; k_head; (case hw => w_witness2)
  k_fill
  refine DL.end_walk (l := PySem.Challenge.rw_polyward_k53_whole_floor_sums_and_near_r) (k := 9) rfl rfl ⟨rfl, by decide, by decide⟩ (fun w h Y => PySem.W.kIn_of Y) ?F
  case F =>
    intro w mg fa h KX G hmg
    refine' Lw.all_mk KX G hmg ?a13 ?l13 ?c13 ?k13 ?a14 ?l14 ?c14 ?k14 ?a15 ?l15 ?c15 ?k15 ?a3 ?l3 ?c3 ?k3 ?a5 ?l5 ?c5 ?k5 ?a6 ?l6 ?c6 ?k6 ?a7 ?l7 ?c7 ?k7 ?a8 ?l8 ?c8 ?k8 ?a9 ?l9 ?c9 ?k9 ?a10 ?l10 ?c10 ?k10 ?a11 ?l11 ?c11 ?k11 ?a18 ?l18 ?c18 ?k18 ?a17 ?l17 ?c17 ?k17 ?a20 ?l20 ?c20 ?k20 ?a21 ?l21 ?c21 ?k21 ?a22 ?l22 ?c22 ?k22 ?a23 ?l23 ?c23 ?k23 ?a19 ?l19 ?c19 ?k19 ?a24 ?l24 ?c24 ?k24 ?a1 ?a2 ?z_abs ?z_all ?z_bool ?z_dict ?z_int ?z_isinstance ?z_len ?z_list ?z_range ?z_reversed ?z_str ?z_sum ?z_tuple ?x2 ?kc2 ?s2 ?t2 ?s1 ?i1 ?t1 ?u2_1 ?hg2 ?hk2 ?hd2 ?ha2 ?hn ?ht ?hm2
    (case a13 => k_is)
    (case l13 => k_is)
    (case c13 => k_is)
    (case k13 => k_is)
    (case a14 => k_is)
    (case l14 => k_is)
    (case c14 => k_is)
    (case k14 => k_is)
    (case a15 => k_is)
    (case l15 => k_is)
    (case c15 => k_is)
    (case k15 => k_is)
    (case a3 => k_is)
    (case l3 => k_is)
    (case c3 => k_is)
    (case k3 => k_is)
    (case a5 => k_is)
    (case l5 => k_is)
    (case c5 => k_is)
    (case k5 => k_is)
    (case a6 => k_is)
    (case l6 => k_is)
    (case c6 => k_is)
    (case k6 => k_is)
    (case a7 => k_is)
    (case l7 => k_is)
    (case c7 => k_is)
    (case k7 => k_is)
    (case a8 => k_is)
    (case l8 => k_is)
    (case c8 => k_is)
    (case k8 => k_is)
    (case a9 => k_is)
    (case l9 => k_is)
    (case c9 => k_is)
    (case k9 => k_is)
    (case a10 => k_is)
    (case l10 => k_is)
    (case c10 => k_is)
    (case k10 => k_is)
    (case a11 => k_is)
    (case l11 => k_is)
    (case c11 => k_is)
    (case k11 => k_is)
    (case a18 => k_is)
    (case l18 => k_is)
    (case c18 => k_is)
    (case k18 => k_is)
    (case a17 => k_is)
    (case l17 => k_is)
    (case c17 => k_is)
    (case k17 => k_is)
    (case a20 => k_is)
    (case l20 => k_is)
    (case c20 => k_is)
    (case k20 => k_is)
    (case a21 => k_is)
    (case l21 => k_is)
    (case c21 => k_is)
    (case k21 => k_is)
    (case a22 => k_is)
    (case l22 => k_is)
    (case c22 => k_is)
    (case k22 => k_is)
    (case a23 => k_is)
    (case l23 => k_is)
    (case c23 => k_is)
    (case k23 => k_is)
    (case a19 => k_is)
    (case l19 => k_is)
    (case c19 => k_is)
    (case k19 => k_is)
    (case a24 => k_is)
    (case l24 => k_is)
    (case c24 => k_is)
    (case k24 => k_is)
    (case a1 => k_is)
    (case a2 => k_is)
    (case z_abs => k_is)
    (case z_all => k_is)
    (case z_bool => k_is)
    (case z_dict => k_is)
    (case z_int => k_is)
    (case z_isinstance => k_is)
    (case z_len => k_is)
    (case z_list => k_is)
    (case z_range => k_is)
    (case z_reversed => k_is)
    (case z_str => k_is)
    (case z_sum => k_is)
    (case z_tuple => k_is)
    (case x2 => k_exc)
    (case kc2 => k_is)
    (case s2 => k_is)
    (case t2 => k_is)
    (case s1 => k_is)
    (case i1 => k_is)
    (case t1 => k_is)
    (case u2_1 => k_is)
    (case hg2 => k_is)
    (case hk2 => k_is)
    (case hd2 => k_is)
    (case ha2 => k_is)
    (case hn => k_is)
    (case ht => k_is)
    (case hm2 => k_is)
#print axioms PySem.Challenge.cw_polyward_k53_whole_floor_sums_and_near_r_holds
