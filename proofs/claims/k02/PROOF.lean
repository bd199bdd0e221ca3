import PyProof.Rows.All
import Wide.All
import OpenK.AllK
import Wide.FinOn
import HandS.ForMost
import HandS.ExcOwn
import HandS.Lambda
import HandS.Nested
import HandS.EndTab
import HandS.Style
import HandS.ExcCtx
import HandS.WordsExc
import HandS.Wide
import HandS.Deep
import HandS.TupAny
import HandS.IsInst
import HandS.Rev
import HandS.Zip
import HandS.More
import HandS.ExcIs
import HandS.EndBits
import HandS.HotCalls
import HandS.Star
import HandS.TupMul
import HandS.NoneIn
import KE.KDictZip
import HandS.TupSets
import KE.SortData
import PyProof.TupleIter
import PyProof.WalksMore
import PyProof.FactsAll.subtypes_4
import PyProof.Rows.RuleB_bool
import KE.DataMinMax
import HandS.Strs
import HandS.DictComp
import HandS.Conv
import HandS.Comp
import HandS.TupLen
import PyProof.EnumMake
import PyProof.Draws
import KE.GoesMore
import HandS.Iter
import KE.GoesZip
import HandS.WordsDict
import HandS.Ends
import PyProof.ReprRoads
import PyProof.MaxThree
import PyProof.TupleOfSeq
import KE.KDictDisplayH
import KE.KDictWalk
import KE.SortKeyHeap
import PySem.Challenge.RW_polyward_k02_whole_meetings_orders_aroun
set_option Elab.async false
set_option linter.all false
set_option autoImplicit false
set_option maxRecDepth 100000
namespace DL
open PySem PySem.Spec PyProof.Rows L2
abbrev St := L2.St
def DVp (a : Addr) (ep : Nat) (es : List (List Int × Addr × V)) (h : Heap) : Prop := (a == sysModules) = false ∧ (es.map (·.1)).Nodup ∧ ∃ us : List (List Int × Addr × Value), us.map (fun x => (x.1, x.2.1)) = es.map (fun x => (x.1, x.2.1)) ∧ Vals (es.map (·.2.2)) (us.map (·.2.2)) ∧
  ∃ o arr, h.get? a = some o ∧ o.ExactDict ∧ o.data = .dict arr ep ∧ ∀ (P : Program) (w : World), arr.toList = us.map (entryOfKey (tupleKind (intKind P w)))
inductive D where
  | non | bl (b : Bool) | int (i : Int) | str (s : Str) | sym (n : Nat) | ref (a : Addr)
  | tup (ds : List D) | lst (ds : List D) | rol (ds : List D) | dct (kvs : List (D × D))
  | ptp (ds : List D)
structure Gm where
  at_ : Nat → Addr
  tabs : List (Addr × Str)
instance : CoeFun Gm fun _ => Nat → Addr := ⟨Gm.at_⟩
abbrev NT (o : HO) : Prop := ∀ ps, o ≠ .tbl ps
mutual
inductive Rep (g : Gm) (K : PySem.W.Frag) (S : Hp) : V → D → Prop
  | non : Rep g K S .non .non
  | bl (b : Bool) : Rep g K S (.bl b) (.bl b)
  | int (i : Int) : Rep g K S (.int i) (.int i)
  | str (x : Str) : Rep g K S (.str x) (.str x)
  | sym (n : Nat) : Rep g K S (.ref (g n)) (.sym n)
  | ref (a : Addr) : Rep g K S (.ref a) (.ref a)
  | tup {a : Addr} {vs : List V} {ds : List D} : SqT K S a vs → RepL g K S vs ds → Rep g K S (.ref a) (.tup ds)
  | ptp {a : Addr} {o : Obj} {vs : List V} {ds : List D} : S a = some (.frz o (.tup vs)) → o.dict = none → RepL g K S vs ds → Rep g K S (.ref a) (.ptp ds)
  | lst {a : Addr} {vs : List V} {ds : List D} : S a = some (.lst vs) → RepL g K S vs ds → Rep g K S (.ref a) (.lst ds)
  | rol {a : Addr} {vs : List V} {ds : List D} : SqL K S a vs → RepL g K S vs ds → Rep g K S (.ref a) (.rol ds)
  | dV {a : Addr} {ep : Nat} {es : List (List Int × Addr × V)} {ds : List D} : S a = some (.ext (DVp a ep es)) → (∀ e ∈ es, SqT K S e.2.1 (e.1.map V.int)) → RepL g K S (es.map (·.2.2)) ds → Rep g K S (.ref a) (.dct ((es.map fun e => D.tup (e.1.map D.int)).zip ds))
inductive RepL (g : Gm) (K : PySem.W.Frag) (S : Hp) : List V → List D → Prop
  | nil : RepL g K S [] []
  | cons {v : V} {vs : List V} {d : D} {ds : List D} : Rep g K S v d → RepL g K S vs ds → RepL g K S (v :: vs) (d :: ds)
end
section
variable {g : Gm} {K : PySem.W.Frag} {S S' : Hp}
theorem Same.seqT {H H' : Hp} {a : Addr} {xs : List V} (e : Same H H') (h : SqT K H a xs) : SqT K H' a xs := by
  rcases h with (h | ⟨o, h⟩) | h
  · exact .inl (.inl (e _ _ h))
  · exact .inl (.inr ⟨o, e _ _ h⟩)
  · exact .inr h
theorem Same.rd {H H' : Hp} {a : Addr} {u : HO} (e : Same H H') (h : Rd H a u) : Rd H' a u := by
  rcases h with h | ⟨o, h⟩
  · exact .inl (e _ _ h)
  · exact .inr ⟨o, e _ _ h⟩
mutual
theorem Rep.mono (e : Same S S') : ∀ {v : V} {d : D}, Rep g K S v d → Rep g K S' v d
  | _, _, .non => .non
  | _, _, .bl b => .bl b
  | _, _, .int b => .int b
  | _, _, .str b => .str b
  | _, _, .sym b => .sym b
  | _, _, .ref b => .ref b
  | _, _, .tup h r => .tup (Same.seqT e h) (RepL.mono e r)
  | _, _, .ptp h d r => .ptp (e _ _ h) d (RepL.mono e r)
  | _, _, .lst h r => .lst (e _ _ h) (RepL.mono e r)
  | _, _, .rol h r => .rol (e.seq h) (RepL.mono e r)
  | _, _, .dV h k r => .dV (e _ _ h) (fun x hx => Same.seqT e (k x hx)) (RepL.mono e r)
theorem RepL.mono (e : Same S S') : ∀ {v : List V} {d : List D}, RepL g K S v d → RepL g K S' v d
  | _, _, .nil => .nil
  | _, _, .cons h r => .cons (Rep.mono e h) (RepL.mono e r)
end
theorem RepL.length : ∀ {vs : List V} {ds : List D}, RepL g K S vs ds → vs.length = ds.length
  | _, _, .nil => rfl
  | _, _, .cons _ r => by simp [RepL.length r]
theorem RepL.get : ∀ {vs : List V} {ds : List D} {i : Nat} {d : D}, RepL g K S vs ds → ds[i]? = some d → ∃ v, vs[i]? = some v ∧ Rep g K S v d
  | _, _, _, _, .nil, e => by simp at e
  | _, _, 0, _, .cons r _, e => by simp at e; subst e; exact ⟨_, rfl, r⟩
  | _, _, i + 1, d, .cons _ t, e => by
    obtain ⟨u, h1, h2⟩ := RepL.get (i := i) (d := d) t (by simpa using e)
    exact ⟨u, by simpa using h1, h2⟩
theorem RepL.getV : ∀ {vs : List V} {ds : List D} {i : Nat} {v : V}, RepL g K S vs ds → vs[i]? = some v → ∃ d, ds[i]? = some d ∧ Rep g K S v d
  | _, _, _, _, .nil, e => by simp at e
  | _, _, 0, _, .cons r _, e => by simp at e; subst e; exact ⟨_, rfl, r⟩
  | _, _, i + 1, d, .cons _ t, e => by
    obtain ⟨u, h1, h2⟩ := RepL.getV (i := i) (v := d) t (by simpa using e)
    exact ⟨u, by simpa using h1, h2⟩
theorem RepL.append : ∀ {vs ws : List V} {ds es : List D}, RepL g K S vs ds → RepL g K S ws es → RepL g K S (vs ++ ws) (ds ++ es)
  | _, _, _, _, .nil, s => s
  | _, _, _, _, .cons r t, s => .cons r (RepL.append t s)
theorem RepL.take : ∀ {vs : List V} {ds : List D} (n : Nat), RepL g K S vs ds → RepL g K S (vs.take n) (ds.take n)
  | _, _, 0, _ => .nil
  | _, _, _ + 1, .nil => .nil
  | _, _, n + 1, .cons r t => .cons r (RepL.take n t)
theorem RepL.drop : ∀ {vs : List V} {ds : List D} (n : Nat), RepL g K S vs ds → RepL g K S (vs.drop n) (ds.drop n)
  | _, _, 0, r => r
  | _, _, _ + 1, .nil => .nil
  | _, _, n + 1, .cons _ t => RepL.drop n t
theorem RepL.reverse {vs : List V} {ds : List D} (r : RepL g K S vs ds) : RepL g K S vs.reverse ds.reverse := by
  induction vs generalizing ds with
  | nil => cases r; exact .nil
  | cons v vs ih => cases r with
    | cons r t => rw [List.reverse_cons, List.reverse_cons]; exact RepL.append (ih t) (.cons r .nil)
theorem RepL.set {v : V} {d : D} (r : Rep g K S v d) : ∀ {vs : List V} {ds : List D} (i : Nat), RepL g K S vs ds → RepL g K S (vs.set i v) (ds.set i d)
  | _, _, _, .nil => .nil
  | _, _, 0, .cons _ t => .cons r t
  | _, _, i + 1, .cons q t => .cons q (RepL.set r i t)
theorem RepL.split : ∀ {vs : List V} {ds es : List D}, RepL g K S vs (ds ++ es) → ∃ v1 v2, vs = v1 ++ v2 ∧ RepL g K S v1 ds ∧ RepL g K S v2 es
  | vs, [], es, r => ⟨[], vs, rfl, .nil, r⟩
  | _, d :: ds, es, .cons r t => by
    obtain ⟨v1, v2, rfl, r1, r2⟩ := RepL.split (ds := ds) t
    exact ⟨_ :: v1, v2, rfl, .cons r r1, r2⟩
theorem RepL.ints : ∀ {vs : List V} {ns : List Int}, RepL g K S vs (ns.map D.int) → vs = ns.map V.int
  | _, [], .nil => rfl
  | _, n :: ns, .cons (.int _) t => by rw [RepL.ints t]; rfl
theorem RepL.of_ints : ∀ {ns : List Int}, RepL g K S (ns.map V.int) (ns.map D.int)
  | [] => .nil
  | n :: ns => .cons (.int n) RepL.of_ints
end
inductive Cn where
  | lst (ds : List D) | dct (kvs : List (D × D))
def Cn.d : Cn → D
  | .lst ds => .lst ds
  | .dct kvs => .dct kvs
inductive RepC (g : Gm) (K : PySem.W.Frag) (S : Hp) : Addr → HO → Cn → Prop
  | lst {a : Addr} {vs : List V} {ds : List D} : RepL g K S vs ds → RepC g K S a (.lst vs) (.lst ds)
  | dV {a : Addr} {ep : Nat} {es : List (List Int × Addr × V)} {ds : List D} : (∀ e ∈ es, SqT K S e.2.1 (e.1.map V.int)) → RepL g K S (es.map (·.2.2)) ds → RepC g K S a (.ext (DVp a ep es)) (.dct ((es.map fun e => D.tup (e.1.map D.int)).zip ds))
theorem RepC.nt {g : Gm} {K : PySem.W.Frag} {S : Hp} {a : Addr} {o : HO} {c : Cn} (r : RepC g K S a o c) : NT o := fun ps z => by
  cases r <;> cases z
theorem RepC.mono {g : Gm} {K : PySem.W.Frag} {S S' : Hp} (e : Same S S') {a : Addr} {o : HO} {c : Cn} (r : RepC g K S a o c) : RepC g K S' a o c := by
  cases r with
  | lst r => exact .lst (r.mono e)
  | dV k r => exact .dV (fun x hx => Same.seqT e (k x hx)) (r.mono e)
theorem RepC.rep {g : Gm} {K : PySem.W.Frag} {S : Hp} {a : Addr} {o : HO} {c : Cn} (h : S a = some o) (r : RepC g K S a o c) : Rep g K S (.ref a) c.d := by
  cases r with
  | lst r => exact .lst h r
  | dV k r => exact .dV h k r
inductive SV where
  | emp | dat (d : D) | own (c : Cn)
abbrev DS := List SV
def Own (σ : St) (τ : DS) (a : Addr) : Prop := ∃ (i : Nat) (c : Cn), τ[i]? = some (SV.own c) ∧ σ[i]? = some (some (.ref a))
def TabD (T : List (Addr × Str)) (H S : Hp) : Prop := ∀ p ∈ T, S p.1 = none ∧ ∃ ps : Array Value, H p.1 = some (.tbl ps) ∧ TriplesOk ps.toList ∧ ∀ (pos : Pos) (cv : Value), codeAmong pos ps.toList = some cv → ∃ c, cv = .ref c ∧ S c = some (LamX.CodeO c p.2)
theorem TabD.mono {T : List (Addr × Str)} {H S H' S' : Hp} (h : TabD T H S) (eH : ∀ a ps, H a = some (.tbl ps) → H' a = some (.tbl ps)) (eS : ∀ a o, S a = some o → S' a = some o) (nS : ∀ a ps, H a = some (.tbl ps) → S a = none → S' a = none) : TabD T H' S' := fun p hp => by
  obtain ⟨n, ps, h1, h2, h3⟩ := h p hp
  refine ⟨nS _ _ h1 n, ps, eH _ _ h1, h2, fun pos cv hc => ?_⟩
  obtain ⟨c, e1, e2⟩ := h3 pos cv hc
  exact ⟨c, e1, eS _ _ e2⟩
theorem TabD.tabs {T : List (Addr × Str)} {H S : Hp} (h : TabD T H S) (le : Same S H) : LamX.Tabs T H := fun p hp => by
  obtain ⟨_, ps, h1, h2, h3⟩ := h p hp
  refine ⟨ps, h1, h2, fun pos cv hc => ?_⟩
  obtain ⟨c, e1, e2⟩ := h3 pos cv hc
  exact ⟨c, e1, le _ _ e2⟩
theorem TabD.upd {T : List (Addr × Str)} {H S : Hp} {a : Addr} {o o0 : HO} (h : TabD T H S) (ha : H a = some o0) (n : ∀ ps, o0 ≠ .tbl ps) : TabD T (upd H a o) S := h.mono (fun b ps e => by
  rw [upd_ne (fun z => n ps (Option.some.inj (by rw [← ha, ← z]; exact e)))]
  exact e) (fun _ _ e => e) fun _ _ _ e => e
structure Abs (g : Gm) (K : PySem.W.Frag) (σ : St) (H : Hp) (τ : DS) (S : Hp) : Prop where
  le : Same S H
  len : σ.length = τ.length
  dat : ∀ (i : Nat) (d : D), τ[i]? = some (.dat d) → ∃ v, σ[i]? = some (some v) ∧ Rep g K S v d
  own : ∀ (i : Nat) (c : Cn), τ[i]? = some (.own c) → ∃ a o, σ[i]? = some (some (.ref a)) ∧ H a = some o ∧ S a = none ∧ RepC g K S a o c
  inj : ∀ (i j : Nat) (c c' : Cn), τ[i]? = some (.own c) → τ[j]? = some (.own c') → σ[i]? = σ[j]? → i = j
  tab : TabD g.tabs H S
structure Ext (σ : St) (τ : DS) (H S : Hp) (σ' : St) (τ' : DS) (H' S' : Hp) : Prop where
  st : Same S S'
  pv : ∀ a o, H a = some o → NT o → S a = none → ¬ Own σ τ a → H' a = some o ∧ S' a = none
  ow : ∀ a, Own σ' τ' a → Own σ τ a ∨ H a = none
  al : ∀ a, H' a = none → H a = none
section
variable {g : Gm} {K : PySem.W.Frag} {σ σ' σ1 σ2 : St} {τ τ' τ1 τ2 : DS} {H H' S S' H1 S1 H2 S2 : Hp}
theorem Ext.refl : Ext σ τ H S σ τ H S := ⟨Same.refl _, fun _ _ h _ n _ => ⟨h, n⟩, fun _ h => .inl h, fun _ h => h⟩
theorem Ext.trans (e : Ext σ τ H S σ1 τ1 H1 S1) (f : Ext σ1 τ1 H1 S1 σ2 τ2 H2 S2) : Ext σ τ H S σ2 τ2 H2 S2 where
  st := e.st.trans f.st
  pv := fun a o h nt n no => by
    obtain ⟨h1, n1⟩ := e.pv a o h nt n no
    refine f.pv a o h1 nt n1 fun q => ?_
    rcases e.ow a q with q | q
    · exact no q
    · rw [h] at q; cases q
  ow := fun a q => by
    rcases f.ow a q with q | q
    · exact e.ow a q
    · exact .inr (e.al a q)
  al := fun a h => e.al a (f.al a h)
theorem Abs.sn (A : Abs g K σ H τ S) {p : Addr} (h : H p = none) : S p = none := by
  cases q : S p with
  | none => rfl
  | some o => have := A.le _ _ q; rw [h] at this; cases this
theorem Same.upd_new {H : Hp} {p : Addr} {o : HO} (h : H p = none) : Same H (upd H p o) := fun b x e => by
  rw [upd_ne (ne_of_none e h)]
  exact e
theorem Abs.own_some (A : Abs g K σ H τ S) {a : Addr} (h : Own σ τ a) : ∃ o, H a = some o := by
  obtain ⟨i, c, h1, h2⟩ := h
  obtain ⟨b, o, e, q, _⟩ := A.own i c h1
  rw [h2] at e; cases e
  exact ⟨o, q⟩
theorem Abs.new (A : Abs g K σ H τ S) {p : Addr} (h : H p = none) (o : HO) : Abs g K σ (upd H p o) τ (upd S p o) where
  le := fun b x e => by
    by_cases hb : b = p
    · subst hb; rw [upd_same] at e ⊢; exact e
    · rw [upd_ne hb] at e ⊢; exact A.le _ _ e
  len := A.len
  dat := fun i d e => by
    obtain ⟨v, e1, r⟩ := A.dat i d e
    exact ⟨v, e1, r.mono (Same.upd_new (A.sn h))⟩
  own := fun i c e => by
    obtain ⟨a, o', e1, h1, n1, r⟩ := A.own i c e
    have ne : a ≠ p := ne_of_none h1 h
    exact ⟨a, o', e1, by rw [upd_ne ne]; exact h1, by rw [upd_ne ne]; exact n1, r.mono (Same.upd_new (A.sn h))⟩
  inj := A.inj
  tab := A.tab.mono (fun _ _ e => Same.upd_new h _ _ e) (Same.upd_new (A.sn h)) fun b ps e n => by rw [upd_ne (ne_of_none e h)]; exact n
theorem Abs.ext_new (A : Abs g K σ H τ S) {p : Addr} (h : H p = none) (o : HO) : Ext σ τ H S σ τ (upd H p o) (upd S p o) where
  st := Same.upd_new (A.sn h)
  pv := fun a x e _ n _ => by
    have ne : a ≠ p := ne_of_none e h
    exact ⟨by rw [upd_ne ne]; exact e, by rw [upd_ne ne]; exact n⟩
  ow := fun _ h => .inl h
  al := fun a e => by
    by_cases hb : a = p
    · rw [hb]; exact h
    · rw [upd_ne hb] at e; exact e
theorem Abs.priv (A : Abs g K σ H τ S) {p : Addr} (h : H p = none) (o : HO) : Abs g K σ (upd H p o) τ S where
  le := fun b x e => by rw [upd_ne (ne_of_none (A.le _ _ e) h)]; exact A.le _ _ e
  len := A.len
  dat := A.dat
  own := fun i c e => by
    obtain ⟨a, o', e1, h1, n1, r⟩ := A.own i c e
    exact ⟨a, o', e1, by rw [upd_ne (ne_of_none h1 h)]; exact h1, n1, r⟩
  inj := A.inj
  tab := A.tab.mono (fun _ _ e => Same.upd_new h _ _ e) (fun _ _ e => e) fun _ _ _ e => e
theorem Abs.ext_priv (A : Abs g K σ H τ S) {p : Addr} (h : H p = none) (o : HO) : Ext σ τ H S σ τ (upd H p o) S where
  st := Same.refl _
  pv := fun a x e _ n _ => ⟨by rw [upd_ne (ne_of_none e h)]; exact e, n⟩
  ow := fun _ h => .inl h
  al := fun a e => by
    by_cases hb : a = p
    · rw [hb]; exact h
    · rw [upd_ne hb] at e; exact e
theorem Abs.freeze (A : Abs g K σ H τ S) {p : Addr} {o : HO} (h : H p = some o) (nt : NT o) (n : S p = none) (no : ¬ Own σ τ p) : Abs g K σ H τ (upd S p o) where
  le := fun b x e => by
    by_cases hb : b = p
    · subst hb; rw [upd_same] at e; rw [h]; exact e
    · rw [upd_ne hb] at e; exact A.le _ _ e
  len := A.len
  dat := fun i d e => by
    obtain ⟨v, e1, r⟩ := A.dat i d e
    exact ⟨v, e1, r.mono (Same.upd_new n)⟩
  own := fun i c e => by
    obtain ⟨a, o', e1, h1, n1, r⟩ := A.own i c e
    have ne : a ≠ p := fun q => no (q ▸ ⟨i, c, e, e1⟩)
    exact ⟨a, o', e1, h1, by rw [upd_ne ne]; exact n1, r.mono (Same.upd_new n)⟩
  inj := A.inj
  tab := A.tab.mono (fun _ _ e => e) (Same.upd_new n) fun b ps e n2 => by rw [upd_ne (fun z => nt ps (Option.some.inj (by rw [← h, ← z]; exact e)))]; exact n2
end
inductive RV where
  | dat (d : D) | fr (c : Cn) | slot (i : Nat)
inductive RepV (g : Gm) (K : PySem.W.Frag) (σ : St) (τ : DS) (H0 H S : Hp) : V → RV → Prop
  | dat {v : V} {d : D} : Rep g K S v d → RepV g K σ τ H0 H S v (.dat d)
  | fr {p : Addr} {o : HO} {c : Cn} : H0 p = none → H p = some o → S p = none → ¬ Own σ τ p → RepC g K S p o c → RepV g K σ τ H0 H S (.ref p) (.fr c)
  | slot {i : Nat} {v : V} : σ[i]? = some (some v) → RepV g K σ τ H0 H S v (.slot i)
section
variable {g : Gm} {K : PySem.W.Frag} {σ σ' : St} {τ τ' τ1 τ2 : DS} {H H' S S' H0 H1 S1 H2 S2 : Hp}
theorem RepV.ext {v : V} {r : RV} (x : RepV g K σ τ H0 H S v r) (e : Ext σ τ H S σ τ' H' S') (ha : ∀ a, H a = none → H0 a = none) : RepV g K σ τ' H0 H' S' v r := by
  cases x with
  | dat r => exact .dat (r.mono e.st)
  | fr h0 h n no r =>
    obtain ⟨h1, n1⟩ := e.pv _ _ h r.nt n no
    refine .fr h0 h1 n1 (fun q => ?_) (r.mono e.st)
    rcases e.ow _ q with q | q
    · exact no q
    · rw [h] at q; cases q
  | slot h => exact .slot h
theorem RepV.older {v : V} {r : RV} (x : RepV g K σ τ H1 H S v r) (ha : ∀ a, H1 a = none → H0 a = none) : RepV g K σ τ H0 H S v r := by
  cases x with
  | dat r => exact .dat r
  | fr h0 h n no r => exact .fr (ha _ h0) h n no r
  | slot h => exact .slot h
end
inductive Res (α : Type) where
  | ok (a : α) (τ : DS) | err (c : Nat) (τ : DS) | stuck
def Res.bind {α β : Type} (r : Res α) (f : α → DS → Res β) : Res β := match r with
  | .ok a τ => f a τ
  | .err c τ => .err c τ
  | .stuck => .stuck
def FinP (g : Gm) (K : PySem.W.Frag) (W : WX) {α : Type} (σ : St) (τ : DS) (H S : Hp) (r : Res α) (post : DS → α → Hp → Hp → Prop) : Prop := match r with
  | .ok a τ' => ∀ H' S', Abs g K σ H' τ' S' → Ext σ τ H S σ τ' H' S' → post τ' a H' S'
  | .err c τ' => ∀ H' S', Abs g K σ H' τ' S' → Ext σ τ H S σ τ' H' S' → W (.ref (g c)) none σ H'
  | .stuck => False
section
variable {g : Gm} {K : PySem.W.Frag} {W : WX} {α β : Type} {σ : St} {τ τ1 : DS} {H S H1 S1 : Hp}
theorem FinP.mono {r : Res α} {p q : DS → α → Hp → Hp → Prop} (h : FinP g K W σ τ H S r p) (pq : ∀ τ' a H' S', Abs g K σ H' τ' S' → Ext σ τ H S σ τ' H' S' → p τ' a H' S' → q τ' a H' S') : FinP g K W σ τ H S r q := by
  cases r with
  | ok a τ' => exact fun H' S' A e => pq _ _ _ _ A e (h H' S' A e)
  | err c τ' => exact h
  | stuck => exact h
theorem FinP.ext {r : Res α} {p : DS → α → Hp → Hp → Prop} (h : FinP g K W σ τ H S r p) (e : Ext σ τ H S σ τ1 H1 S1) : FinP g K W σ τ1 H1 S1 r p := by
  cases r with
  | ok a τ' => exact fun H' S' A f => h H' S' A (e.trans f)
  | err c τ' => exact fun H' S' A f => h H' S' A (e.trans f)
  | stuck => exact h
theorem FinP.bind {r : Res α} {f : α → DS → Res β} {p : DS → β → Hp → Hp → Prop} (h : FinP g K W σ τ H S (r.bind f) p) : FinP g K W σ τ H S r fun τ1 a H1 S1 => FinP g K W σ τ1 H1 S1 (f a τ1) p := by
  cases r with
  | ok a τ' => exact fun H' S' A e => FinP.ext (show FinP g K W σ τ H S (f a τ') p from h) e
  | err c τ' => exact h
  | stuck => exact h
theorem FinP.here {a : α} {p : DS → α → Hp → Hp → Prop} (A : Abs g K σ H τ S) (h : FinP g K W σ τ H S (.ok a τ) p) : p τ a H S := h H S A .refl
end
def LE (g : Gm) (K : PySem.W.Frag) (W : WX) (m : DS → Res RV) : TE := fun σ H Q => ∃ τ S, Abs g K σ H τ S ∧ FinP g K W σ τ H S (m τ) fun τ' r H' S' => ∀ v, RepV g K σ τ' H H' S' v r → Q v H'
def LT (g : Gm) (K : PySem.W.Frag) (W : WX) (m : DS → Res Bool) : TT := fun σ H Q => ∃ τ S, Abs g K σ H τ S ∧ FinP g K W σ τ H S (m τ) fun _ b H' _ => Q b H'
structure DE (X : Cx) (g : Gm) (W : WX) (e : Expr) (m : DS → Res RV) : Prop where
  pe : PE X e (LE g X.K W m)
structure DT (X : Cx) (g : Gm) (W : WX) (e : Expr) (m : DS → Res Bool) : Prop where
  pt : PT X e (LT g X.K W m)
theorem PE.imp {X : Cx} {e : Expr} {t t' : TE} (h : PE X e t) (i : ∀ σ H Q, t' σ H Q → t σ H Q) : PE X e t' := ⟨fun pins s σ H Q I q => h.run pins s σ H Q I (i σ H Q q)⟩
theorem PT.imp {X : Cx} {e : Expr} {t t' : TT} (h : PT X e t) (i : ∀ σ H Q, t' σ H Q → t σ H Q) : PT X e t' := ⟨fun pins s σ H Q I q => h.run pins s σ H Q I (i σ H Q q)⟩
section
variable {g : Gm} {K : PySem.W.Frag} {W : WX} {σ : St} {τ : DS} {H S : Hp}
theorem LE.bind {ma : DS → Res RV} {f : RV → DS → Res RV} {Q : VK} (h : LE g K W (fun τ => (ma τ).bind f) σ H Q) :
    LE g K W ma σ H fun x H1 => ∃ τ1 S1 r, Abs g K σ H1 τ1 S1 ∧ RepV g K σ τ1 H H1 S1 x r ∧ (∀ a, H1 a = none → H a = none) ∧ FinP g K W σ τ1 H1 S1 (f r τ1) fun τ' r H' S' => ∀ v, RepV g K σ τ' H H' S' v r → Q v H' := by
  obtain ⟨τ, S, A, h⟩ := h
  refine ⟨τ, S, A, (FinP.bind h).mono fun τ1 r H1 S1 A1 e1 q v rv => ⟨τ1, S1, r, A1, rv, e1.al, q⟩⟩
theorem LE.of_fin {m : DS → Res RV} {H0 : Hp} {Q : VK} (A : Abs g K σ H τ S) (ha : ∀ a, H a = none → H0 a = none) (h : FinP g K W σ τ H S (m τ) fun τ' r H' S' => ∀ v, RepV g K σ τ' H0 H' S' v r → Q v H') : LE g K W m σ H Q :=
  ⟨τ, S, A, h.mono fun _ _ _ _ _ _ q v rv => q v (rv.older ha)⟩
end
end DL
namespace DL
open PySem PySem.Spec PyProof.Rows L2
def force (r : RV) (τ : DS) : Res D := match r with
  | .dat d => .ok d τ
  | .fr c => .ok c.d τ
  | .slot i => match τ[i]? with
    | some (.own c) => .ok c.d (τ.set i (.dat c.d))
    | some (.dat d) => .ok d τ
    | _ => .stuck
def peek (r : RV) (τ : DS) : Option D := match r with
  | .dat d => some d
  | .fr c => some c.d
  | .slot i => match τ[i]? with
    | some (.own c) => some c.d
    | some (.dat d) => some d
    | _ => none
inductive Shown (g : Gm) (K : PySem.W.Frag) (H S : Hp) : V → D → Prop
  | rep {v : V} {d : D} : Rep g K S v d → Shown g K H S v d
  | own {p : Addr} {o : HO} {c : Cn} : H p = some o → RepC g K S p o c → Shown g K H S (.ref p) c.d
section
variable {g : Gm} {K : PySem.W.Frag} {W : WX} {α β : Type} {σ : St} {τ τ1 : DS} {H0 H S H1 S1 : Hp} {v : V}
theorem Abs.freezeSlot (A : Abs g K σ H τ S) {i : Nat} {c : Cn} {a : Addr} {o : HO} (hi : τ[i]? = some (SV.own c)) (hs : σ[i]? = some (some (.ref a))) (h : H a = some o) (n : S a = none) (r : RepC g K S a o c) :
    Abs g K σ H (τ.set i (.dat c.d)) (upd S a o) ∧ Ext σ τ H S σ (τ.set i (.dat c.d)) H (upd S a o) := by
  have sm : Same S (upd S a o) := Same.upd_new n
  have hlt : i < τ.length := (List.getElem?_eq_some_iff.mp hi).1
  refine ⟨⟨fun b x e => ?_, by simpa using A.len, fun j d e => ?_, fun j c' e => ?_, fun j k c1 c2 e1 e2 => ?_, A.tab.mono (fun _ _ e => e) sm fun b ps e n2 => by rw [upd_ne (fun z => r.nt ps (Option.some.inj (by rw [← h, ← z]; exact e)))]; exact n2⟩, sm, fun b x e _ nb no => ⟨e, ?_⟩, fun b hb => .inl ?_, fun _ e => e⟩
  · by_cases hb : b = a
    · subst hb; rw [upd_same] at e; rw [h]; exact e
    · rw [upd_ne hb] at e; exact A.le _ _ e
  · by_cases hj : i = j
    · subst hj
      rw [List.getElem?_set_self hlt] at e
      cases e
      exact ⟨_, hs, (r.mono sm).rep upd_same⟩
    · rw [List.getElem?_set_ne hj] at e
      obtain ⟨w, e1, r1⟩ := A.dat j d e
      exact ⟨w, e1, r1.mono sm⟩
  · by_cases hj : i = j
    · subst hj
      rw [List.getElem?_set_self hlt] at e
      cases e
    · rw [List.getElem?_set_ne hj] at e
      obtain ⟨b, o', e1, h1, n1, r1⟩ := A.own j c' e
      have ne : b ≠ a := fun q => by
        subst q
        exact hj (A.inj i j c c' hi e (hs.trans e1.symm))
      exact ⟨b, o', e1, h1, by rw [upd_ne ne]; exact n1, r1.mono sm⟩
  · by_cases h1 : i = j
    · subst h1; rw [List.getElem?_set_self hlt] at e1; cases e1
    · by_cases h2 : i = k
      · subst h2; rw [List.getElem?_set_self hlt] at e2; cases e2
      · rw [List.getElem?_set_ne h1] at e1
        rw [List.getElem?_set_ne h2] at e2
        exact A.inj _ _ _ _ e1 e2
  · have ne : b ≠ a := fun q => by
      subst q
      exact no ⟨i, c, hi, hs⟩
    rw [upd_ne ne]; exact nb
  · obtain ⟨j, c', e1, e2⟩ := hb
    by_cases hj : i = j
    · subst hj; rw [List.getElem?_set_self hlt] at e1; cases e1
    · rw [List.getElem?_set_ne hj] at e1
      exact ⟨j, c', e1, e2⟩
def RepW (g : Gm) (K : PySem.W.Frag) (σ : St) (τ : DS) (H0 H S : Hp) (v : V) (r : RV) : Prop := RepV g K σ τ H0 H S v r ∨ ∃ c, r = .fr c ∧ Rep g K S v c.d
theorem RepW.fast {p : Addr} {o : HO} {τ' : DS} {u : V} {q : RV} (h : H p = some o) (n : S p = none) (sub : ∀ a, Own σ τ' a → Own σ τ a) (x : RepW g K σ τ H0 H S u q) : RepW g K σ τ' H0 H (upd S p o) u q := by
  have sm : Same S (upd S p o) := Same.upd_new n
  rcases x with x | ⟨c, e, r⟩
  · cases x with
    | dat r => exact .inl (.dat (r.mono sm))
    | fr h0 h' n' no r =>
      rename_i p' o' c'
      by_cases np : p' = p
      · subst np
        rw [h] at h'
        cases h'
        exact .inr ⟨_, rfl, (r.mono sm).rep upd_same⟩
      · exact .inl (.fr h0 h' (by rw [upd_ne np]; exact n') (fun z => no (sub _ z)) (r.mono sm))
    | slot h => exact .inl (.slot h)
  · exact .inr ⟨c, e, r.mono sm⟩
theorem own_sub {i : Nat} {d : D} {a : Addr} (h : Own σ (τ.set i (.dat d)) a) : Own σ τ a := by
  obtain ⟨j, c', z1, z2⟩ := h
  by_cases hj : i = j
  · subst hj
    by_cases hl : i < τ.length
    · rw [List.getElem?_set_self hl] at z1; cases z1
    · rw [List.getElem?_eq_none (by simpa using hl)] at z1; cases z1
  · rw [List.getElem?_set_ne hj] at z1
    exact ⟨j, c', z1, z2⟩
theorem FinP.force {r : RV} {f : D → DS → Res β} {post : DS → β → Hp → Hp → Prop} (A : Abs g K σ H τ S) (e : Ext σ τ1 H1 S1 σ τ H S) (rv : RepW g K σ τ H1 H S v r) (h : FinP g K W σ τ1 H1 S1 ((force r τ).bind f) post) :
    ∃ τ' S' d, Abs g K σ H τ' S' ∧ Ext σ τ1 H1 S1 σ τ' H S' ∧ Rep g K S' v d ∧ Same S S' ∧ (∀ u q, RepW g K σ τ H1 H S u q → RepW g K σ τ' H1 H S' u q) ∧ FinP g K W σ τ1 H1 S1 (f d τ') post := by
  rcases rv with rv | ⟨c, rfl, r⟩
  · cases rv with
    | dat r => exact ⟨τ, S, _, A, e, r, Same.refl _, fun _ _ x => x, h⟩
    | fr h0 hp n no r =>
      rename_i p o c
      have A' := A.freeze hp r.nt n no
      refine ⟨τ, upd S p o, c.d, A', ?_, (r.mono (Same.upd_new n)).rep upd_same, Same.upd_new n, fun _ _ x => x.fast hp n fun _ z => z, h⟩
      exact ⟨e.st.trans (Same.upd_new n), fun a x q nt na no' => by
        obtain ⟨h1, n1⟩ := e.pv a x q nt na no'
        exact ⟨h1, by rw [upd_ne (ne_of_none q h0)]; exact n1⟩, e.ow, e.al⟩
    | slot hs =>
      rename_i i
      unfold DL.force at h
      dsimp only at h
      cases q : τ[i]? with
      | none => rw [q] at h; exact h.elim
      | some sv =>
        rw [q] at h
        cases sv with
        | emp => exact h.elim
        | dat d =>
          obtain ⟨w, e1, r⟩ := A.dat i d q
          rw [hs] at e1; cases e1
          exact ⟨τ, S, d, A, e, r, Same.refl _, fun _ _ x => x, h⟩
        | own c =>
          obtain ⟨a, o, e1, h1, n1, r⟩ := A.own i c q
          rw [hs] at e1; cases e1
          obtain ⟨A', e'⟩ := A.freezeSlot q hs h1 n1 r
          exact ⟨_, _, c.d, A', e.trans e', (r.mono (Same.upd_new n1)).rep upd_same, Same.upd_new n1, fun _ _ x => x.fast h1 n1 fun _ z => own_sub z, h⟩
  · exact ⟨τ, S, c.d, A, e, r, Same.refl _, fun _ _ x => x, h⟩
theorem peek_ok {r : RV} {d : D} (A : Abs g K σ H τ S) (rv : RepV g K σ τ H0 H S v r) (h : peek r τ = some d) : Shown g K H S v d := by
  cases rv with
  | dat r => cases h; exact .rep r
  | fr h0 hp n no r => cases h; exact .own hp r
  | slot hs =>
    rename_i i
    unfold peek at h
    dsimp only at h
    cases q : τ[i]? with
    | none => rw [q] at h; cases h
    | some sv =>
      rw [q] at h
      cases sv with
      | emp => cases h
      | dat d' =>
        cases h
        obtain ⟨w, e1, r⟩ := A.dat i d q
        rw [hs] at e1; cases e1
        exact .rep r
      | own c =>
        cases h
        obtain ⟨a, o, e1, h1, n1, r⟩ := A.own i c q
        rw [hs] at e1; cases e1
        exact .own h1 r
theorem Shown.lst {ds : List D} (x : Shown g K H S v (.lst ds)) (le : Same S H) : ∃ a vs, v = .ref a ∧ H a = some (.lst vs) ∧ RepL g K S vs ds := by
  generalize hd : D.lst ds = d at x
  cases x with
  | rep r =>
    subst hd
    cases r with
    | lst h r => exact ⟨_, _, rfl, le _ _ h, r⟩
  | own h r =>
    cases r with
    | lst r => cases hd; exact ⟨_, _, rfl, h, r⟩
    | dV k r => cases hd
theorem Shown.rol {ds : List D} (x : Shown g K H S v (.rol ds)) (le : Same S H) : ∃ a vs, v = .ref a ∧ SqL K H a vs ∧ RepL g K S vs ds := by
  generalize hd : D.rol ds = d at x
  cases x with
  | rep r =>
    subst hd
    cases r with
    | rol h r => exact ⟨_, _, rfl, le.seq h, r⟩
  | own h r => cases r <;> cases hd
theorem Shown.tup {ds : List D} (x : Shown g K H S v (.tup ds)) (le : Same S H) : ∃ a vs, v = .ref a ∧ SqT K H a vs ∧ RepL g K S vs ds := by
  generalize hd : D.tup ds = d at x
  cases x with
  | rep r =>
    subst hd
    cases r with
    | tup h r => exact ⟨_, _, rfl, Same.seqT le h, r⟩
  | own h r => cases r <;> cases hd
theorem Shown.int {i : Int} (x : Shown g K H S v (.int i)) : v = .int i := by
  generalize hd : D.int i = d at x
  cases x with
  | rep r => subst hd; cases r; rfl
  | own h r => cases r <;> cases hd
theorem Shown.bl {i : Bool} (x : Shown g K H S v (.bl i)) : v = .bl i := by
  generalize hd : D.bl i = d at x
  cases x with
  | rep r => subst hd; cases r; rfl
  | own h r => cases r <;> cases hd
theorem Shown.str {i : Str} (x : Shown g K H S v (.str i)) : v = .str i := by
  generalize hd : D.str i = d at x
  cases x with
  | rep r => subst hd; cases r; rfl
  | own h r => cases r <;> cases hd
theorem Shown.non (x : Shown g K H S v .non) : v = .non := by
  generalize hd : D.non = d at x
  cases x with
  | rep r => subst hd; cases r; rfl
  | own h r => cases r <;> cases hd
end
def ofO {α : Type} (o : Option α) (τ : DS) : Res α := match o with
  | some a => .ok a τ
  | none => .stuck
def op2 (f : D → D → Option RV) (x y : RV) (τ : DS) : Res RV := ofO ((peek x τ).bind fun dx => (peek y τ).bind fun dy => f dx dy) τ
def op1 (f : D → Option RV) (x : RV) (τ : DS) : Res RV := ofO ((peek x τ).bind f) τ
def mBin (f : D → D → Option RV) (ma mb : DS → Res RV) : DS → Res RV := fun τ => (ma τ).bind fun x τ1 => (mb τ1).bind fun y τ2 => op2 f x y τ2
def mUn (f : D → Option RV) (ma : DS → Res RV) : DS → Res RV := fun τ => (ma τ).bind fun x τ1 => op1 f x τ1
def EndV (g : Gm) (K : PySem.W.Frag) (σ : St) (τ : DS) (H S : Hp) (o : Option RV) (Q : VK) : Prop := match o with
  | some r => ∀ v H' S', Abs g K σ H' τ S' → Ext σ τ H S σ τ H' S' → RepV g K σ τ H H' S' v r → Q v H'
  | none => False
def OpD (X : Cx) (g : Gm) (fn : Value → Value → Sem Value) (f : D → D → Option RV) : Prop :=
  ∀ (pins : List (Addr × Obj)) (s : Shared) (σ : St) (H : Hp) (τ : DS) (S : Hp) (x y : V) (v u : Value) (dx dy : D) (Q : VK), Inv X pins σ H s → RelV x v → RelV y u → Abs g X.K σ H τ S → Shown g X.K H S x dx → Shown g X.K H S y dy →
    EndV g X.K σ τ H S (f dx dy) Q → wpAny (model X.prog X.w) X.A (fn v u) (EP X pins σ Q) X.xe s
def UnD (X : Cx) (g : Gm) (fn : Value → Sem Value) (f : D → Option RV) : Prop :=
  ∀ (pins : List (Addr × Obj)) (s : Shared) (σ : St) (H : Hp) (τ : DS) (S : Hp) (x : V) (v : Value) (dx : D) (Q : VK), Inv X pins σ H s → RelV x v → Abs g X.K σ H τ S → Shown g X.K H S x dx →
    EndV g X.K σ τ H S (f dx) Q → wpAny (model X.prog X.w) X.A (fn v) (EP X pins σ Q) X.xe s
section
variable {g : Gm} {K : PySem.W.Frag} {σ : St} {τ : DS} {H S : Hp} {Q : VK}
theorem EndV.here {v : V} {d : D} (h : EndV g K σ τ H S (some (.dat d)) Q) (A : Abs g K σ H τ S) (r : Rep g K S v d) : Q v H := h v H S A .refl (.dat r)
theorem EndV.tup {ds : List D} {vs : List V} (h : EndV g K σ τ H S (some (.dat (.tup ds))) Q) (A : Abs g K σ H τ S) (r : RepL g K S vs ds) : ∀ p, H p = none → Q (.ref p) (upd H p (.tup vs)) := fun p hp =>
  h _ _ _ (A.new hp _) (A.ext_new hp _) (.dat (.tup (SqT.of upd_same) (r.mono (Same.upd_new (A.sn hp)))))
theorem Own.not_new (A : Abs g K σ H τ S) {p : Addr} (hp : H p = none) : ¬ Own σ τ p := fun q => by
  obtain ⟨o, e⟩ := A.own_some q
  rw [hp] at e; cases e
theorem EndV.lst {ds : List D} {vs : List V} (h : EndV g K σ τ H S (some (.fr (.lst ds))) Q) (A : Abs g K σ H τ S) (r : RepL g K S vs ds) : ∀ p, H p = none → Q (.ref p) (upd H p (.lst vs)) := fun p hp =>
  h _ _ _ (A.priv hp _) (A.ext_priv hp _) (.fr hp upd_same (A.sn hp) (Own.not_new A hp) (.lst r))
end
section
variable {X : Cx} {g : Gm} {W : WX} {a b c : Expr} {ma mb mc : DS → Res RV} {pos : Pos}
theorem endV_fin {K : PySem.W.Frag} {σ : St} {τ : DS} {H0 H S : Hp} {o : Option RV} {Q : VK} (ha : ∀ a, H a = none → H0 a = none) (h : FinP g K W σ τ H S (ofO o τ) fun τ' r H' S' => ∀ v, RepV g K σ τ' H0 H' S' v r → Q v H') : EndV g K σ τ H S o Q := by
  cases o with
  | none => exact h
  | some r => exact fun v H' S' A e rv => h H' S' A e v (rv.older ha)
theorem ofO_bind_cases {α β : Type} {K : PySem.W.Frag} {σ : St} {τ τ1 : DS} {H S : Hp} {o : Option α} {f : α → Option β} {p : DS → β → Hp → Hp → Prop} (h : FinP g K W σ τ H S (ofO (o.bind f) τ1) p) : ∃ a, o = some a ∧ FinP g K W σ τ H S (ofO (f a) τ1) p := by
  cases o with
  | none => exact h.elim
  | some a => exact ⟨a, rfl, h⟩
theorem LE.mono {K : PySem.W.Frag} {m : DS → Res RV} {σ : St} {H : Hp} {Q Q' : VK} (h : LE g K W m σ H Q) (q : ∀ v H1, Q v H1 → Q' v H1) : LE g K W m σ H Q' := by
  obtain ⟨τ, S, A, h⟩ := h
  exact ⟨τ, S, A, h.mono fun _ _ _ _ _ _ z v rv => q _ _ (z v rv)⟩
theorem two {K : PySem.W.Frag} {f : D → D → Option RV} {σ : St} {H : Hp} {Q : VK} (h : LE g K W (mBin f ma mb) σ H Q) :
    LE g K W ma σ H fun x H1 => LE g K W mb σ H1 fun y H2 => ∃ τ S dx dy, Abs g K σ H2 τ S ∧ Shown g K H2 S x dx ∧ Shown g K H2 S y dy ∧ EndV g K σ τ H2 S (f dx dy) Q := by
  refine LE.mono (LE.bind h) fun x H1 ⟨τ1, S1, rx, A1, rvx, al, h1⟩ => ?_
  refine ⟨τ1, S1, A1, (FinP.bind h1).mono fun τ2 ry H2 S2 A2 e2 h2 y rvy => ?_⟩
  obtain ⟨dx, e3, h3⟩ := ofO_bind_cases h2
  obtain ⟨dy, e4, h4⟩ := ofO_bind_cases h3
  exact ⟨τ2, S2, dx, dy, A2, peek_ok A2 (rvx.ext e2 al) e3, peek_ok A2 rvy e4, endV_fin (fun a z => al a (e2.al a z)) h4⟩
theorem one {K : PySem.W.Frag} {f : D → Option RV} {σ : St} {H : Hp} {Q : VK} (h : LE g K W (mUn f ma) σ H Q) :
    LE g K W ma σ H fun x H1 => ∃ τ S dx, Abs g K σ H1 τ S ∧ Shown g K H1 S x dx ∧ EndV g K σ τ H1 S (f dx) Q := by
  refine LE.mono (LE.bind h) fun x H1 ⟨τ1, S1, rx, A1, rvx, al, h1⟩ => ?_
  obtain ⟨dx, e3, h3⟩ := ofO_bind_cases h1
  exact ⟨τ1, S1, dx, A1, peek_ok A1 rvx e3, endV_fin al h3⟩
theorem de_bin {op : Operator} {f : D → D → Option RV} (ho : OpD X g (binaryOp op) f) (ha : DE X g W a ma) (hb : DE X g W b mb) : DE X g W (.BinOp a op b pos) (mBin f ma mb) := by
  refine ⟨⟨fun pins s σ H Q I h => ?_⟩⟩
  exact wpAny_BinOp (binT ha.pe hb.pe I (two h) fun v u s2 x y H2 I2 rx ry ⟨τ, S, dx, dy, A, sx, sy, e⟩ => ho pins s2 σ H2 τ S x y v u dx dy Q I2 rx ry A sx sy e)
theorem de_un {op : UnaryOp} {f : D → Option RV} (ho : UnD X g (unaryOp op) f) (ha : DE X g W a ma) : DE X g W (.UnaryOp op a pos) (mUn f ma) := by
  refine ⟨⟨fun pins s σ H Q I h => ?_⟩⟩
  exact UnaryOp_ (thn (ha.pe.run pins s σ H _ I (one h)) fun v s1 ⟨x, H1, I1, r1, τ, S, dx, A, sx, e⟩ => ho pins s1 σ H1 τ S x v dx Q I1 r1 A sx e)
theorem dpc_bin {op : CmpOp} {f : D → D → Option RV} (ho : OpD X g (compareOp op) f) (ha : DE X g W a ma) (hb : DE X g W b mb) : PC X op a b (LE g X.K W (mBin f ma mb)) := by
  refine ⟨fun pins s σ H Q I h => ?_⟩
  exact binT ha.pe hb.pe I (two h) fun v u s2 x y H2 I2 rx ry ⟨τ, S, dx, dy, A, sx, sy, e⟩ => ho pins s2 σ H2 τ S x y v u dx dy Q I2 rx ry A sx sy e
theorem de_cmp {op : CmpOp} {f : D → D → Option RV} (ho : OpD X g (compareOp op) f) (ha : DE X g W a ma) (hb : DE X g W b mb) (h1 : behindInMarks op b = false := by first | exact nobehind _ (by decide) (by decide) | rfl) :
    DE X g W (.Compare a [op] [b] pos) (mBin f ma mb) := ⟨pe_cmp (dpc_bin ho ha hb) h1⟩
def asB (r : RV) : Option Bool := match r with
  | .dat (.bl b) => some b
  | _ => none
def mTest (m : DS → Res RV) : DS → Res Bool := fun τ => (m τ).bind fun r τ1 => ofO (asB r) τ1
theorem test_of {K : PySem.W.Frag} {m : DS → Res RV} {σ : St} {H : Hp} {Q : Bool → Hp → Prop} (h : LT g K W (mTest m) σ H Q) : tB (LE g K W m) σ H Q := by
  obtain ⟨τ, S, A, h⟩ := h
  refine ⟨τ, S, A, (FinP.bind h).mono fun τ1 r H1 S1 A1 e1 h1 v rv => ?_⟩
  cases rv with
  | dat r =>
    cases r with
    | bl b => exact ⟨b, rfl, FinP.here A1 h1⟩
    | _ => exact (show False from h1).elim
  | fr _ _ _ _ _ => exact (show False from h1).elim
  | slot _ => exact (show False from h1).elim
theorem dt_cmp {op : CmpOp} {f : D → D → Option RV} (ho : OpD X g (compareOp op) f) (ha : DE X g W a ma) (hb : DE X g W b mb) (h1 : behindInMarks op b = false := by first | exact nobehind _ (by decide) (by decide) | rfl) :
    DT X g W (.Compare a [op] [b] pos) (mTest (mBin f ma mb)) := ⟨PT.imp (pt_cmp (dpc_bin ho ha hb) h1) fun _ _ _ h => test_of h⟩
theorem dt_val {e : Expr} {m : DS → Res RV} (h : DE X g W e m) (he : ∀ whole, isTrue e X.env whole = (do let v ← whole; standAt e.pos; holding [v] (truthy v)) := by intro _; rfl) : DT X g W e (mTest m) :=
  ⟨PT.imp (pt_val h.pe he) fun _ _ _ h => test_of h⟩
variable {tA tB' : DS → Res Bool} {rest : List Expr}
def mAndT (t u : DS → Res Bool) : DS → Res Bool := fun τ => (t τ).bind fun b τ1 => if b = true then u τ1 else .ok false τ1
def mOrT (t u : DS → Res Bool) : DS → Res Bool := fun τ => (t τ).bind fun b τ1 => if b = true then .ok true τ1 else u τ1
def mNotT (t : DS → Res Bool) : DS → Res Bool := fun τ => (t τ).bind fun b τ1 => .ok (!b) τ1
structure DW (X : Cx) (g : Gm) (W : WX) (e : Expr) (m : DS → Res Bool) : Prop where
  pw : PW X e (LT g X.K W m)
theorem PW.imp {X : Cx} {e : Expr} {t t' : TT} (h : PW X e t) (i : ∀ σ H Q, t' σ H Q → t σ H Q) : PW X e t' := ⟨fun wh pins s σ H Q I q => h.run wh pins s σ H Q I (i σ H Q q)⟩
theorem LT.bind {K : PySem.W.Frag} {t : DS → Res Bool} {f : Bool → DS → Res Bool} {σ : St} {H : Hp} {Q : Bool → Hp → Prop} (h : LT g K W (fun τ => (t τ).bind f) σ H Q) : LT g K W t σ H fun b H1 => LT g K W (f b) σ H1 Q := by
  obtain ⟨τ, S, A, h⟩ := h
  exact ⟨τ, S, A, (FinP.bind h).mono fun τ1 b H1 S1 A1 e1 h1 => ⟨τ1, S1, A1, h1⟩⟩
theorem LT.mono {K : PySem.W.Frag} {m : DS → Res Bool} {σ : St} {H : Hp} {Q Q' : Bool → Hp → Prop} (h : LT g K W m σ H Q) (q : ∀ v H1, Q v H1 → Q' v H1) : LT g K W m σ H Q' := by
  obtain ⟨τ, S, A, h⟩ := h
  exact ⟨τ, S, A, h.mono fun _ _ _ _ _ _ z => q _ _ z⟩
theorem LT.ok {K : PySem.W.Frag} {b : Bool} {σ : St} {H : Hp} {Q : Bool → Hp → Prop} (h : LT g K W (fun τ => .ok b τ) σ H Q) : Q b H := by
  obtain ⟨τ, S, A, h⟩ := h
  exact FinP.here A h
theorem LT.and {K : PySem.W.Frag} {σ : St} {H : Hp} {Q : Bool → Hp → Prop} (h : LT g K W (mAndT tA tB') σ H Q) : tAnd (LT g K W tA) (LT g K W tB') σ H Q := by
  refine (LT.bind h).mono fun b H1 h1 => ?_
  cases b with
  | true => exact iteT h1
  | false => exact iteF (LT.ok h1)
theorem LT.or {K : PySem.W.Frag} {σ : St} {H : Hp} {Q : Bool → Hp → Prop} (h : LT g K W (mOrT tA tB') σ H Q) : tOr (LT g K W tA) (LT g K W tB') σ H Q := by
  refine (LT.bind h).mono fun b H1 h1 => ?_
  cases b with
  | true => exact iteT (LT.ok h1)
  | false => exact iteF h1
theorem dw_and1 (ha : DT X g W a tA) : DW X g W (.BoolOp .And [a] pos) tA := ⟨pw_and1 ha.pt⟩
theorem dw_or1 (ha : DT X g W a tA) : DW X g W (.BoolOp .Or [a] pos) tA := ⟨pw_or1 ha.pt⟩
theorem dw_and (ha : DT X g W a tA) (hb : DW X g W (.BoolOp .And (b :: rest) pos) tB') : DW X g W (.BoolOp .And (a :: b :: rest) pos) (mAndT tA tB') := ⟨PW.imp (pw_and ha.pt hb.pw) fun _ _ _ h => LT.and h⟩
theorem dw_or (ha : DT X g W a tA) (hb : DW X g W (.BoolOp .Or (b :: rest) pos) tB') : DW X g W (.BoolOp .Or (a :: b :: rest) pos) (mOrT tA tB') := ⟨PW.imp (pw_or ha.pt hb.pw) fun _ _ _ h => LT.or h⟩
theorem dt_w {e : Expr} (h : DW X g W e tA) : DT X g W e tA := ⟨h.pw.pt⟩
theorem dt_not (ha : DT X g W a tA) : DT X g W (.UnaryOp .Not a pos) (mNotT tA) := ⟨PT.imp (pt_not ha.pt) fun _ _ _ h => (LT.bind h).mono fun _ _ h1 => LT.ok h1⟩
def mAnd (ma mb : DS → Res RV) : DS → Res RV := fun τ => (mTest ma τ).bind fun b τ1 => if b = true then mb τ1 else .ok (.dat (.bl false)) τ1
def mOr (ma mb : DS → Res RV) : DS → Res RV := fun τ => (mTest ma τ).bind fun b τ1 => if b = true then .ok (.dat (.bl true)) τ1 else mb τ1
def mNot (ma : DS → Res RV) : DS → Res RV := fun τ => (mTest ma τ).bind fun b τ1 => .ok (.dat (.bl (!b))) τ1
theorem LE.testB {K : PySem.W.Frag} {m : DS → Res Bool} {f : Bool → DS → Res RV} {σ : St} {H : Hp} {Q : VK} (h : LE g K W (fun τ => (m τ).bind f) σ H Q) :
    LT g K W m σ H fun b H1 => ∃ τ1 S1, Abs g K σ H1 τ1 S1 ∧ (∀ a, H1 a = none → H a = none) ∧ FinP g K W σ τ1 H1 S1 (f b τ1) fun τ' r H' S' => ∀ v, RepV g K σ τ' H H' S' v r → Q v H' := by
  obtain ⟨τ, S, A, h⟩ := h
  exact ⟨τ, S, A, (FinP.bind h).mono fun τ1 b H1 S1 A1 e1 h1 => ⟨τ1, S1, A1, e1.al, h1⟩⟩
theorem FinP.val {K : PySem.W.Frag} {σ : St} {τ : DS} {H0 H S : Hp} {d : D} {v : V} {Q : VK} (A : Abs g K σ H τ S) (r : ∀ S, Rep g K S v d) (h : FinP g K W σ τ H S (.ok (.dat d) τ) fun τ' r H' S' => ∀ v, RepV g K σ τ' H0 H' S' v r → Q v H') : Q v H :=
  FinP.here A h v (.dat (r _))
theorem de_one {op : BoolOp} (h : DE X g W a ma) : DE X g W (.BoolOp op [a] pos) ma := ⟨pe_one h.pe⟩
theorem de_and (ha : DE X g W a ma) (hb : DE X g W (.BoolOp .And (b :: rest) pos) mb) : DE X g W (.BoolOp .And (a :: b :: rest) pos) (mAnd ma mb) := by
  refine ⟨PE.imp (pe_and ha.pe hb.pe) fun σ H Q h => ?_⟩
  refine LE.mono (test_of (LE.testB h)) fun x H1 ⟨c, e, τ1, S1, A1, al, h1⟩ => ⟨c, e, ?_⟩
  cases c with
  | true => exact iteT (LE.of_fin A1 al h1)
  | false => exact iteF (FinP.val A1 (fun _ => .bl false) h1)
theorem de_or (ha : DE X g W a ma) (hb : DE X g W (.BoolOp .Or (b :: rest) pos) mb) : DE X g W (.BoolOp .Or (a :: b :: rest) pos) (mOr ma mb) := by
  refine ⟨PE.imp (pe_or ha.pe hb.pe) fun σ H Q h => ?_⟩
  refine LE.mono (test_of (LE.testB h)) fun x H1 ⟨c, e, τ1, S1, A1, al, h1⟩ => ⟨c, e, ?_⟩
  cases c with
  | true => exact iteT (FinP.val A1 (fun _ => .bl true) h1)
  | false => exact iteF (LE.of_fin A1 al h1)
theorem de_not (ha : DE X g W a ma) : DE X g W (.UnaryOp .Not a pos) (mNot ma) := by
  refine ⟨PE.imp (pe_not ha.pe) fun σ H Q h => ?_⟩
  exact LE.mono (test_of (LE.testB h)) fun x H1 ⟨c, e, τ1, S1, A1, al, h1⟩ => ⟨c, e, FinP.val A1 (fun _ => .bl (!c)) h1⟩
def mIf (t : DS → Res Bool) (ma mb : DS → Res RV) : DS → Res RV := fun τ => (t τ).bind fun b τ1 => if b = true then ma τ1 else mb τ1
theorem de_if {tc : DS → Res Bool} (hc : DT X g W c tc) (ha : DE X g W a ma) (hb : DE X g W b mb) : DE X g W (.IfExp c a b pos) (mIf tc ma mb) := by
  refine ⟨PE.imp (pe_ifExp hc.pt ha.pe hb.pe) fun σ H Q h => ?_⟩
  refine (LE.testB h).mono fun d H1 ⟨τ1, S1, A1, al, h1⟩ => ?_
  cases d with
  | true => exact iteT (LE.of_fin A1 al h1)
  | false => exact iteF (LE.of_fin A1 al h1)
def mIsNone (ma : DS → Res RV) : DS → Res RV := mUn (fun d => match d with | .non => some (.dat (.bl true)) | _ => some (.dat (.bl false))) ma
theorem Shown.is_non {K : PySem.W.Frag} {H S : Hp} {v : V} {d : D} (x : Shown g K H S v d) : (decide (v = V.non)) = (match d with | .non => true | _ => false) := by
  cases x with
  | rep r => cases r <;> simp
  | own h r => cases r <;> simp [Cn.d]
theorem dpc_isNone {j : Nat} {pos' : Pos} (ha : DE X g W a ma) : PC X .Is a (.Constant .none j pos') (LE g X.K W (mIsNone ma)) := by
  refine ⟨fun pins s σ H Q I h => (pc_isN ha.pe).run pins s σ H Q I ?_⟩
  refine LE.mono (one h) fun x H1 ⟨τ, S, d, A, sx, e⟩ => ?_
  rw [sx.is_non]
  cases d <;> exact e.here A (.bl _)
theorem de_isNone {j : Nat} {pos' : Pos} (ha : DE X g W a ma) : DE X g W (.Compare a [.Is] [.Constant .none j pos'] pos) (mIsNone ma) := ⟨pe_cmp (dpc_isNone ha)⟩
theorem dt_isNone {j : Nat} {pos' : Pos} (ha : DE X g W a ma) : DT X g W (.Compare a [.Is] [.Constant .none j pos'] pos) (mTest (mIsNone ma)) := ⟨PT.imp (pt_cmp (dpc_isNone ha)) fun _ _ _ h => test_of h⟩
def mVar (i : Nat) : DS → Res RV := fun τ => match τ[i]? with
  | some (.dat d) => .ok (.dat d) τ
  | some (.own _) => .ok (.slot i) τ
  | _ => .stuck
def mC (d : D) : DS → Res RV := fun τ => .ok (.dat d) τ
theorem de_var {i : Nat} {x : Str} (hN : X.N[i]? = some x := by rfl) (hv : Vis X.env.scope x := by first | exact Or.inl rfl | exact Or.inr (Or.inl rfl) | exact Or.inr (Or.inr rfl)) (hd : (x == ("__debug__" : Str)) = false := by decide)
    (hcd : (x == ("__classdict__" : Str)) = false := by decide) : DE X g W (.Name x pos) (mVar i) := by
  refine ⟨PE.imp (pe_var (i := i) hN hv hd hcd) fun σ H Q ⟨τ, S, A, h⟩ => ?_⟩
  unfold mVar at h
  cases q : τ[i]? with
  | none => rw [q] at h; exact h.elim
  | some sv =>
    rw [q] at h
    cases sv with
    | emp => exact h.elim
    | dat d =>
      obtain ⟨v, e1, r⟩ := A.dat i d q
      exact ⟨v, e1, FinP.here A h v (.dat r)⟩
    | own c =>
      obtain ⟨p, o, e1, h1, n1, r⟩ := A.own i c q
      exact ⟨_, e1, FinP.here A h _ (.slot e1)⟩
theorem LE.const {K : PySem.W.Frag} {σ : St} {H : Hp} {d : D} {v : V} {Q : VK} (h : LE g K W (mC d) σ H Q) (r : ∀ S, Rep g K S v d) : Q v H := by
  obtain ⟨τ, S, A, h⟩ := h
  exact FinP.val A r h
theorem de_int {i : Int} {j : Nat} : DE X g W (.Constant (.int i) j pos) (mC (.int i)) := ⟨PE.imp pe_int fun _ _ _ h => LE.const h fun _ => .int i⟩
theorem de_bl {i : Bool} {j : Nat} : DE X g W (.Constant (.bool i) j pos) (mC (.bl i)) := ⟨PE.imp pe_bl fun _ _ _ h => LE.const h fun _ => .bl i⟩
theorem de_non {j : Nat} : DE X g W (.Constant .none j pos) (mC .non) := ⟨PE.imp pe_non fun _ _ _ h => LE.const h fun _ => .non⟩
theorem de_glob {x : Str} {v : V} {u : Value} {d : D} (hg : Gl X x) (hm : X.mg x = some u) (r : RelV v u) (rd : ∀ S, Rep g X.K S v d) (hd : (x == ("__debug__" : Str)) = false := by decide) : DE X g W (.Name x pos) (mC d) :=
  ⟨PE.imp (pe_glob hg hm r hd) fun _ _ _ h => LE.const h rd⟩
theorem de_sym {x : Str} {n : Nat} (hg : Gl X x) (hm : X.mg x = some (.ref (g n))) (hd : (x == ("__debug__" : Str)) = false := by decide) : DE X g W (.Name x pos) (mC (.sym n)) :=
  de_glob (v := .ref (g n)) hg hm rfl (fun _ => .sym n) hd
inductive RepVs (g : Gm) (K : PySem.W.Frag) (σ : St) (τ : DS) (H0 H S : Hp) : List V → List RV → Prop
  | nil : RepVs g K σ τ H0 H S [] []
  | cons {v : V} {vs : List V} {r : RV} {rs : List RV} : RepV g K σ τ H0 H S v r → RepVs g K σ τ H0 H S vs rs → (∀ c, r = .fr c → ∀ u q, (u, q) ∈ vs.zip rs → ∀ c', q = .fr c' → u ≠ v) → RepVs g K σ τ H0 H S (v :: vs) (r :: rs)
theorem RepVs.each {K : PySem.W.Frag} {σ : St} {τ : DS} {H0 H S : Hp} {vs : List V} {rs : List RV} (x : RepVs g K σ τ H0 H S vs rs) : ∀ u q, (u, q) ∈ vs.zip rs → RepV g K σ τ H0 H S u q := by
  induction x with
  | nil => intro u q h; simp at h
  | cons a _ _ ih =>
    intro u q h
    rw [List.zip_cons_cons] at h
    rcases List.mem_cons.mp h with e | h
    · cases e; exact a
    · exact ih u q h
def LA (g : Gm) (K : PySem.W.Frag) (W : WX) (m : DS → Res (List RV)) : TA := fun σ H Q => ∃ τ S, Abs g K σ H τ S ∧ FinP g K W σ τ H S (m τ) fun τ' rs H' S' => ∀ vs, RepVs g K σ τ' H H' S' vs rs → Q vs H'
structure DA (X : Cx) (g : Gm) (W : WX) (es : List Expr) (m : DS → Res (List RV)) : Prop where
  pa : PA X es (LA g X.K W m)
theorem PA.imp {X : Cx} {e : List Expr} {t t' : TA} (h : PA X e t) (i : ∀ σ H Q, t' σ H Q → t σ H Q) : PA X e t' := ⟨fun pos pins s σ H Q I q => h.run pos pins s σ H Q I (i σ H Q q)⟩
def mNil : DS → Res (List RV) := fun τ => .ok [] τ
def mCons (ma : DS → Res RV) (mr : DS → Res (List RV)) : DS → Res (List RV) := fun τ => (ma τ).bind fun r τ1 => (mr τ1).bind fun rs τ2 => .ok (r :: rs) τ2
theorem da_nil : DA X g W [] mNil := ⟨PA.imp pa_nil fun _ _ _ ⟨_, _, A, h⟩ => FinP.here A h [] .nil⟩
theorem da_cons {e : Expr} {es : List Expr} {mr : DS → Res (List RV)} (ha : DE X g W e ma) (hr : DA X g W es mr) (hs : starEach (e :: es) X.env = (false, eval e X.env) :: starEach es X.env := by rfl) : DA X g W (e :: es) (mCons ma mr) := by
  refine ⟨PA.imp (pa_cons ha.pe hr.pa hs) fun σ H Q ⟨τ, S, A, h⟩ => ?_⟩
  refine ⟨τ, S, A, (FinP.bind h).mono fun τ1 r H1 S1 A1 e1 h1 v rv => ?_⟩
  refine ⟨τ1, S1, A1, (FinP.bind h1).mono fun τ2 rs H2 S2 A2 e2 h2 vs rvs => ?_⟩
  have old : ∀ {vs : List V} {rs : List RV}, RepVs g X.K σ τ2 H1 H2 S2 vs rs → RepVs g X.K σ τ2 H H2 S2 vs rs := by
    intro vs rs x
    induction x with
    | nil => exact .nil
    | cons a _ ne ih => exact .cons (a.older e1.al) ih ne
  refine FinP.here A2 h2 (v :: vs) (.cons (rv.ext e2 e1.al) (old rvs) fun c hc u q hm c' hc' z => ?_)
  subst hc hc' z
  have x := rvs.each _ _ hm
  cases rv with
  | fr _ hp _ _ _ => cases x with
    | fr h0 _ _ _ _ => rw [hp] at h0; cases h0
end
end DL
namespace DL
open PySem PySem.Spec PyProof.Rows L2
section
variable {g : Gm} {K : PySem.W.Frag} {W : WX} {α β : Type} {σ σ' σ1 σ2 : St} {τ τ' τ1 τ2 : DS} {H0 H S H1 S1 H' S' : Hp} {v : V}
def forceAll : List RV → DS → Res (List D)
  | [], τ => .ok [] τ
  | r :: rs, τ => (force r τ).bind fun d τ1 => (forceAll rs τ1).bind fun ds τ2 => .ok (d :: ds) τ2
theorem Res.bind_assoc {γ : Type} (r : Res α) (f : α → DS → Res β) (h : β → DS → Res γ) : (r.bind f).bind h = r.bind fun a τ => (f a τ).bind h := by
  cases r <;> rfl
inductive RepWs (g : Gm) (K : PySem.W.Frag) (σ : St) (τ : DS) (H0 H S : Hp) : List V → List RV → Prop
  | nil : RepWs g K σ τ H0 H S [] []
  | cons {v : V} {vs : List V} {r : RV} {rs : List RV} : RepW g K σ τ H0 H S v r → RepWs g K σ τ H0 H S vs rs → RepWs g K σ τ H0 H S (v :: vs) (r :: rs)
theorem RepVs.w {vs : List V} {rs : List RV} (x : RepVs g K σ τ H0 H S vs rs) : RepWs g K σ τ H0 H S vs rs := by
  induction x with
  | nil => exact .nil
  | cons a _ _ ih => exact .cons (.inl a) ih
theorem RepWs.map {H2 S2 : Hp} {vs : List V} {rs : List RV} (x : RepWs g K σ τ H0 H S vs rs) (f : ∀ u q, RepW g K σ τ H0 H S u q → RepW g K σ τ1 H0 H2 S2 u q) : RepWs g K σ τ1 H0 H2 S2 vs rs := by
  induction x with
  | nil => exact .nil
  | cons a _ ih => exact .cons (f _ _ a) ih
theorem FinP.forceAll {post : DS → β → Hp → Hp → Prop} : ∀ {rs : List RV} {f : List D → DS → Res β} {vs : List V} {τ : DS} {S : Hp}, Abs g K σ H τ S → Ext σ τ1 H1 S1 σ τ H S → RepWs g K σ τ H1 H S vs rs → FinP g K W σ τ1 H1 S1 ((forceAll rs τ).bind f) post →
    ∃ τ' S' ds, Abs g K σ H τ' S' ∧ Ext σ τ1 H1 S1 σ τ' H S' ∧ RepL g K S' vs ds ∧ Same S S' ∧ FinP g K W σ τ1 H1 S1 (f ds τ') post
  | [], f, _, τ, S, A, e, .nil, h => ⟨τ, S, [], A, e, .nil, Same.refl _, h⟩
  | r :: rs, f, v :: vs, τ, S, A, e, .cons x xs, h => by
    unfold DL.forceAll at h
    rw [Res.bind_assoc] at h
    obtain ⟨τ2, S2, d, A2, e2, r2, sm, mv, h2⟩ := FinP.force A e x h
    rw [Res.bind_assoc] at h2
    obtain ⟨τ3, S3, ds, A3, e3, r3, sm3, h3⟩ := FinP.forceAll (f := fun ds τ2 => (Res.ok (d :: ds) τ2).bind f) A2 e2 (xs.map mv) h2
    exact ⟨τ3, S3, d :: ds, A3, e3, .cons (r2.mono sm3) r3, sm.trans sm3, h3⟩
end
abbrev bigN : Nat := 1000000
theorem bigN_le : bigN ≤ sizeLine := by decide
section
variable {X : Cx} {g : Gm} {W : WX} {es : List Expr} {ma : DS → Res (List RV)} {pos : Pos}
def mFast (ma : DS → Res (List RV)) {α : Type} (f : List D → DS → Res α) : DS → Res α := fun τ => (ma τ).bind fun rs τ1 => (forceAll rs τ1).bind f
theorem LA.fast {K : PySem.W.Frag} {α : Type} {f : List D → DS → Res α} {σ : St} {τ : DS} {H S : Hp} {post : DS → α → Hp → Hp → Prop} (h : FinP g K W σ τ H S (mFast ma f τ) post) :
    FinP g K W σ τ H S (ma τ) fun τ1 rs H1 S1 => ∀ vs, RepVs g K σ τ1 H H1 S1 vs rs → ∃ τ' S' ds, Abs g K σ H1 τ' S' ∧ Ext σ τ H S σ τ' H1 S' ∧ RepL g K S' vs ds ∧ FinP g K W σ τ' H1 S' (f ds τ') post := by
  unfold mFast at h
  revert h
  generalize ma τ = r
  intro h
  cases r with
  | err c τ' => exact h
  | stuck => exact h
  | ok rs τ1 =>
    intro H1 S1 A1 e1 vs rvs
    obtain ⟨τ', S', ds, A', e', rl, sm, h3⟩ := FinP.forceAll A1 e1 rvs.w (show FinP g K W σ τ H S ((DL.forceAll rs τ1).bind f) post from h)
    exact ⟨τ', S', ds, A', e', rl, h3.ext e'⟩
theorem LE.fast {K : PySem.W.Frag} {f : List D → DS → Res RV} {σ : St} {H : Hp} {Q : VK} (h : LE g K W (mFast ma f) σ H Q) :
    LA g K W ma σ H fun vs H1 => ∃ τ S ds, Abs g K σ H1 τ S ∧ (∀ a, H1 a = none → H a = none) ∧ RepL g K S vs ds ∧ FinP g K W σ τ H1 S (f ds τ) fun τ' r H' S' => ∀ v, RepV g K σ τ' H H' S' v r → Q v H' := by
  obtain ⟨τ, S, A, h⟩ := h
  refine ⟨τ, S, A, (LA.fast h).mono fun τ1 rs H1 S1 A1 e1 q vs rvs => ?_⟩
  obtain ⟨τ', S', ds, A', e', rl, h3⟩ := q vs rvs
  exact ⟨τ', S', ds, A', e'.al, rl, h3⟩
theorem LA.mono {K : PySem.W.Frag} {m : DS → Res (List RV)} {σ : St} {H : Hp} {Q Q' : List V → Hp → Prop} (h : LA g K W m σ H Q) (q : ∀ v H1, Q v H1 → Q' v H1) : LA g K W m σ H Q' := by
  obtain ⟨τ, S, A, h⟩ := h
  exact ⟨τ, S, A, h.mono fun _ _ _ _ _ _ z v rv => q _ _ (z v rv)⟩
def mTup (ma : DS → Res (List RV)) : DS → Res RV := mFast ma fun ds τ => if ds.length ≤ bigN then .ok (.dat (.tup ds)) τ else .stuck
def mLst (ma : DS → Res (List RV)) : DS → Res RV := mFast ma fun ds τ => if ds.length ≤ bigN then .ok (.fr (.lst ds)) τ else .stuck
theorem fin_if {K : PySem.W.Frag} {α : Type} {c : Prop} [Decidable c] {σ : St} {τ : DS} {H S : Hp} {r : Res α} {post : DS → α → Hp → Hp → Prop} (h : FinP g K W σ τ H S (if c then r else .stuck) post) : c ∧ FinP g K W σ τ H S r post := by
  by_cases hc : c
  · rw [if_pos hc] at h; exact ⟨hc, h⟩
  · rw [if_neg hc] at h; exact h.elim
theorem de_tup {k} (ha : DA X g W es ma) : DE X g W (.Tuple es k pos) (mTup ma) := by
  refine ⟨PE.imp (pe_tup ha.pa) fun σ H Q h => (LE.fast h).mono fun vs H1 ⟨τ, S, ds, A, al, rl, h1⟩ => ?_⟩
  obtain ⟨hl, h2⟩ := fin_if h1
  refine ⟨by rw [rl.length]; exact Nat.le_trans hl bigN_le, fun p hp => ?_⟩
  exact EndV.tup (endV_fin (o := some _) al h2) A rl p hp
theorem de_lst (ha : DA X g W es ma) : DE X g W (.List es pos) (mLst ma) := by
  refine ⟨PE.imp (pe_lst ha.pa) fun σ H Q h => (LE.fast h).mono fun vs H1 ⟨τ, S, ds, A, al, rl, h1⟩ => ?_⟩
  obtain ⟨hl, h2⟩ := fin_if h1
  refine ⟨by rw [rl.length]; exact Nat.le_trans hl bigN_le, fun p hp => ?_⟩
  exact EndV.lst (endV_fin (o := some _) al h2) A rl p hp
end
inductive SRes where
  | nx (τ : DS) | bk (τ : DS) | ct (τ : DS) | rt (r : RV) (τ : DS) | err (c : Nat) (τ : DS) | stuck
def SRes.then (r : SRes) (f : DS → SRes) : SRes := match r with
  | .nx τ => f τ
  | r => r
def Res.toS {α : Type} (r : Res α) (f : α → DS → SRes) : SRes := match r with
  | .ok a τ => f a τ
  | .err c τ => .err c τ
  | .stuck => .stuck
def Pr (k : Nat → Bool) (σ σ' : St) : Prop := σ'.length = σ.length ∧ ∀ i, k i = true → σ'[i]? = σ[i]?
theorem Pr.refl {k : Nat → Bool} {σ : St} : Pr k σ σ := ⟨rfl, fun _ _ => rfl⟩
theorem Pr.trans {k : Nat → Bool} {σ σ1 σ2 : St} (a : Pr k σ σ1) (b : Pr k σ1 σ2) : Pr k σ σ2 := ⟨b.1.trans a.1, fun i h => (b.2 i h).trans (a.2 i h)⟩
theorem Pr.set {k : Nat → Bool} {i : Nat} {σ : St} {x : Option V} (h : k i = false) : Pr k σ (σ.set i x) := ⟨by simp, fun j hj => by
  rw [List.getElem?_set_ne (fun z => by rw [← z, h] at hj; cases hj)]⟩
inductive RetV (g : Gm) (K : PySem.W.Frag) (σ0 : St) (τ0 : DS) (H0 : Hp) (σ : St) (τ : DS) (H S : Hp) : V → RV → Prop
  | dat {v : V} {d : D} : Rep g K S v d → RetV g K σ0 τ0 H0 σ τ H S v (.dat d)
  | fr {p : Addr} {o : HO} {c : Cn} : (Own σ0 τ0 p ∨ H0 p = none) → H p = some o → S p = none → ¬ Own σ τ p → RepC g K S p o c → RetV g K σ0 τ0 H0 σ τ H S (.ref p) (.fr c)
def FinS (g : Gm) (K : PySem.W.Frag) (W : WX) (k : Nat → Bool) (σ : St) (τ : DS) (H S : Hp) (r : SRes) (D : Ends) : Prop := match r with
  | .nx τ' => ∀ σ' H' S', Abs g K σ' H' τ' S' → Ext σ τ H S σ' τ' H' S' → Pr k σ σ' → D.nx σ' H'
  | .bk τ' => ∀ σ' H' S', Abs g K σ' H' τ' S' → Ext σ τ H S σ' τ' H' S' → Pr k σ σ' → D.bk σ' H'
  | .ct τ' => ∀ σ' H' S', Abs g K σ' H' τ' S' → Ext σ τ H S σ' τ' H' S' → Pr k σ σ' → D.ct σ' H'
  | .rt r τ' => ∀ σ' v H' S', Abs g K σ' H' τ' S' → Ext σ τ H S σ' τ' H' S' → Pr k σ σ' → RetV g K σ τ H σ' τ' H' S' v r → D.rt v H'
  | .err c τ' => ∀ σ' H' S', Abs g K σ' H' τ' S' → Ext σ τ H S σ' τ' H' S' → Pr k σ σ' → W (.ref (g c)) none σ' H'
  | .stuck => False
section
variable {g : Gm} {K : PySem.W.Frag} {W : WX} {k : Nat → Bool} {σ σ1 : St} {τ τ1 : DS} {H S H1 S1 : Hp} {D D' : Ends}
theorem FinS.ext {r : SRes} (h : FinS g K W k σ τ H S r D) (e : Ext σ τ H S σ1 τ1 H1 S1) (p : Pr k σ σ1) : FinS g K W k σ1 τ1 H1 S1 r D := by
  cases r with
  | nx τ' => exact fun σ' H' S' A f q => h σ' H' S' A (e.trans f) (p.trans q)
  | bk τ' => exact fun σ' H' S' A f q => h σ' H' S' A (e.trans f) (p.trans q)
  | ct τ' => exact fun σ' H' S' A f q => h σ' H' S' A (e.trans f) (p.trans q)
  | err c τ' => exact fun σ' H' S' A f q => h σ' H' S' A (e.trans f) (p.trans q)
  | rt r τ' =>
    refine fun σ' v H' S' A f q x => h σ' v H' S' A (e.trans f) (p.trans q) ?_
    cases x with
    | dat r => exact .dat r
    | fr z hh n no r =>
      refine .fr ?_ hh n no r
      rcases z with z | z
      · exact e.ow _ z
      · exact .inr (e.al _ z)
  | stuck => exact h
theorem FinS.then {r : SRes} {f : DS → SRes} (h : FinS g K W k σ τ H S (r.then f) D) : FinS g K W k σ τ H S r { D with nx := fun σ1 H1 => ∃ τ1 S1, Abs g K σ1 H1 τ1 S1 ∧ FinS g K W k σ1 τ1 H1 S1 (f τ1) D } := by
  cases r with
  | nx τ' => exact fun σ' H' S' A e p => ⟨τ', S', A, FinS.ext (show FinS g K W k σ τ H S (f τ') D from h) e p⟩
  | bk τ' => exact h
  | ct τ' => exact h
  | err c τ' => exact h
  | rt r τ' => exact h
  | stuck => exact h
theorem FinS.toS {α : Type} {r : Res α} {f : α → DS → SRes} (h : FinS g K W k σ τ H S (r.toS f) D) : FinP g K W σ τ H S r fun τ1 a H1 S1 => FinS g K W k σ τ1 H1 S1 (f a τ1) D := by
  cases r with
  | ok a τ' => exact fun H' S' A e => FinS.ext (show FinS g K W k σ τ H S (f a τ') D from h) e Pr.refl
  | err c τ' => exact fun H' S' A e => h σ H' S' A e Pr.refl
  | stuck => exact h
theorem FinS.mono {r : SRes} (h : FinS g K W k σ τ H S r D) (n : ∀ σ' H', D.nx σ' H' → D'.nx σ' H') (b : ∀ σ' H', D.bk σ' H' → D'.bk σ' H') (c : ∀ σ' H', D.ct σ' H' → D'.ct σ' H') (t : ∀ v H', D.rt v H' → D'.rt v H') : FinS g K W k σ τ H S r D' := by
  cases r with
  | nx τ' => exact fun σ' H' S' A e p => n _ _ (h σ' H' S' A e p)
  | bk τ' => exact fun σ' H' S' A e p => b _ _ (h σ' H' S' A e p)
  | ct τ' => exact fun σ' H' S' A e p => c _ _ (h σ' H' S' A e p)
  | err c τ' => exact h
  | rt r τ' => exact fun σ' v H' S' A e p x => t _ _ (h σ' v H' S' A e p x)
  | stuck => exact h
theorem FinS.here (A : Abs g K σ H τ S) (h : FinS g K W k σ τ H S (.nx τ) D) : D.nx σ H := h σ H S A .refl .refl
end
def LS (g : Gm) (K : PySem.W.Frag) (W : WX) (k : Nat → Bool) (m : DS → SRes) : TS := fun D σ H => ∃ τ S, Abs g K σ H τ S ∧ FinS g K W k σ τ H S (m τ) D
structure DSt (X : Cx) (g : Gm) (W : WX) (k : Nat → Bool) (st : Stmt) (m : DS → SRes) : Prop where
  ps : PS X st (LS g X.K W k m)
structure DSs (X : Cx) (g : Gm) (W : WX) (k : Nat → Bool) (st : List Stmt) (m : DS → SRes) : Prop where
  ps : PSs X st (LS g X.K W k m)
theorem PS.imp {X : Cx} {e : Stmt} {t t' : TS} (h : PS X e t) (i : ∀ D σ H, t' D σ H → t D σ H) : PS X e t' := ⟨fun pins s σ H Q I q => h.run pins s σ H Q I (i _ _ _ q)⟩
theorem PSs.imp {X : Cx} {e : List Stmt} {t t' : TS} (h : PSs X e t) (i : ∀ D σ H, t' D σ H → t D σ H) : PSs X e t' := ⟨fun pins s σ H Q I q => h.run pins s σ H Q I (i _ _ _ q)⟩
section
variable {X : Cx} {g : Gm} {W : WX} {k : Nat → Bool} {st : Stmt} {rest : List Stmt} {ms mr : DS → SRes} {e : Expr} {me : DS → Res RV} {pos : Pos}
def mSkip : DS → SRes := fun τ => .nx τ
def mSeq (a b : DS → SRes) : DS → SRes := fun τ => (a τ).then b
def mNever : DS → SRes := fun _ => .stuck
theorem ds_nil : DSs X g W k [] mSkip := ⟨PSs.imp pss_nil fun _ _ _ ⟨_, _, A, h⟩ => FinS.here A h⟩
theorem ds_cons (h1 : DSt X g W k st ms) (h2 : DSs X g W k rest mr) : DSs X g W k (st :: rest) (mSeq ms mr) :=
  ⟨PSs.imp (pss_cons h1.ps h2.ps) fun _ _ _ ⟨τ, S, A, h⟩ => ⟨τ, S, A, (FinS.then h).mono (fun _ _ q => q) (fun _ _ q => q) (fun _ _ q => q) fun _ _ q => q⟩⟩
theorem ds_one (h1 : DSt X g W k st ms) : DSs X g W k [st] ms := ⟨pss_one h1.ps⟩
theorem dss_never {sts : List Stmt} : DSs X g W k sts mNever := ⟨PSs.imp pss_never fun _ _ _ ⟨_, _, _, h⟩ => h⟩
def mBreak : DS → SRes := fun τ => .bk τ
theorem ds_break : DSt X g W k (.Break pos) mBreak := ⟨PS.imp ps_break fun _ σ H ⟨_, S, A, h⟩ => h σ H S A .refl .refl⟩
def mDrop (me : DS → Res RV) : DS → SRes := fun τ => (me τ).toS fun _ τ1 => .nx τ1
theorem ds_expr (he : DE X g W e me) (hs : swapsWith e none pos.line X.env = pure false := by rfl) : DSt X g W k (.Expr e pos) (mDrop me) :=
  ⟨PS.imp (ps_expr he.pe hs) fun _ _ _ ⟨τ, S, A, h⟩ => ⟨τ, S, A, (FinS.toS h).mono fun _ _ _ _ A1 _ q _ _ => FinS.here A1 q⟩⟩
def retR (r : RV) (τ : DS) : SRes := match r with
  | .dat d => .rt (.dat d) τ
  | .fr c => .rt (.fr c) τ
  | .slot i => match τ[i]? with
    | some (.own c) => .rt (.fr c) (τ.set i .emp)
    | some (.dat d) => .rt (.dat d) τ
    | _ => .stuck
def mRet (me : DS → Res RV) : DS → SRes := fun τ => (me τ).toS retR
theorem Abs.drop {K : PySem.W.Frag} {σ : St} {τ : DS} {H S : Hp} (A : Abs g K σ H τ S) (i : Nat) : Abs g K σ H (τ.set i .emp) S ∧ Ext σ τ H S σ (τ.set i .emp) H S := by
  have get : ∀ {j : Nat} {x : SV}, x ≠ .emp → (τ.set i SV.emp)[j]? = some x → τ[j]? = some x ∧ i ≠ j := fun {j x} hx e => by
    by_cases hj : i = j
    · subst hj
      by_cases hl : i < τ.length
      · rw [List.getElem?_set_self hl] at e; cases e; exact absurd rfl hx
      · rw [List.getElem?_eq_none (by simpa using hl)] at e; cases e
    · rw [List.getElem?_set_ne hj] at e; exact ⟨e, hj⟩
  refine ⟨⟨A.le, by simpa using A.len, fun j d e => A.dat j d (get (by simp) e).1, fun j c e => A.own j c (get (by simp) e).1, fun j l c c' e1 e2 => A.inj j l c c' (get (by simp) e1).1 (get (by simp) e2).1, A.tab⟩,
    Same.refl _, fun _ _ h _ n _ => ⟨h, n⟩, fun a ⟨j, c, e1, e2⟩ => .inl ⟨j, c, (get (by simp) e1).1, e2⟩, fun _ h => h⟩
theorem ds_ret (he : DE X g W e me) : DSt X g W k (.Return (some e) pos) (mRet me) := by
  refine ⟨PS.imp (ps_ret he.pe) fun D σ H ⟨τ, S, A, h⟩ => ⟨τ, S, A, ?_⟩⟩
  revert h
  unfold mRet
  generalize me τ = r
  intro h
  cases r with
  | stuck => exact h
  | err c τ1 => exact fun H1 S1 A1 e1 => h σ H1 S1 A1 e1 .refl
  | ok r τ1 =>
    intro H1 S1 A1 e1 v rv
    have h : FinS g X.K W k σ τ H S (retR r τ1) D := h
    cases rv with
    | dat rd => exact h σ v H1 S1 A1 e1 .refl (.dat rd)
    | fr h0 hp n no rc => exact h σ _ H1 S1 A1 e1 .refl (.fr (.inr h0) hp n no rc)
    | @slot i _ hs =>
      unfold retR at h
      dsimp only at h
      cases q : τ1[i]? with
      | none => rw [q] at h; exact h.elim
      | some sv =>
        rw [q] at h
        cases sv with
        | emp => exact h.elim
        | dat d =>
          obtain ⟨w, e2, r⟩ := A1.dat i d q
          rw [hs] at e2; cases e2
          exact h σ v H1 S1 A1 e1 .refl (.dat r)
        | own c =>
          obtain ⟨a, o, e2, h2, n2, r⟩ := A1.own i c q
          rw [hs] at e2; cases e2
          obtain ⟨A2, e3⟩ := A1.drop i
          refine h σ _ H1 S1 A2 (e1.trans e3) .refl (.fr (e1.ow a ⟨i, c, q, hs⟩) h2 n2 (fun ⟨j, c', z1, z2⟩ => ?_) r)
          by_cases hj : i = j
          · subst hj; rw [List.getElem?_set_self (List.getElem?_eq_some_iff.mp q).1] at z1; cases z1
          · rw [List.getElem?_set_ne hj] at z1
            exact hj (A1.inj i j c c' q z1 (hs.trans z2.symm))
def mRetN : DS → SRes := fun τ => .rt (.dat .non) τ
def mIfS (t : DS → Res Bool) (a b : DS → SRes) : DS → SRes := fun τ => (t τ).toS fun c τ1 => if c = true then a τ1 else b τ1
theorem ds_if {c : Expr} {a b : List Stmt} {tc : DS → Res Bool} {ma mb : DS → SRes} (hc : DT X g W c tc) (ha : DSs X g W k a ma) (hb : DSs X g W k b mb) : DSt X g W k (.If c a b pos) (mIfS tc ma mb) := by
  refine ⟨PS.imp (ps_if hc.pt ha.ps hb.ps) fun D σ H ⟨τ, S, A, h⟩ => ⟨τ, S, A, (FinS.toS h).mono fun τ1 d H1 S1 A1 _ q => ?_⟩⟩
  cases d with
  | true => exact iteT ⟨τ1, S1, A1, q⟩
  | false => exact iteF ⟨τ1, S1, A1, q⟩
theorem set_get {α : Type} {l : List α} {i j : Nat} {x y : α} (e : (l.set i x)[j]? = some y) : (i = j ∧ x = y) ∨ (i ≠ j ∧ l[j]? = some y) := by
  by_cases hj : i = j
  · subst hj
    by_cases hl : i < l.length
    · rw [List.getElem?_set_self hl] at e; exact .inl ⟨rfl, Option.some.inj e⟩
    · rw [List.getElem?_eq_none (by simpa using hl)] at e; cases e
  · rw [List.getElem?_set_ne hj] at e; exact .inr ⟨hj, e⟩
theorem Abs.set {K : PySem.W.Frag} {σ : St} {τ : DS} {H S : Hp} {v : V} {d : D} (A : Abs g K σ H τ S) (i : Nat) (r : Rep g K S v d) : Abs g K (σ.set i (some v)) H (τ.set i (.dat d)) S ∧ Ext σ τ H S (σ.set i (some v)) (τ.set i (.dat d)) H S := by
  have keep : ∀ {j : Nat} {c : Cn}, (τ.set i (SV.dat d))[j]? = some (.own c) → τ[j]? = some (.own c) ∧ (σ.set i (some v))[j]? = σ[j]? := fun {j c} e => by
    rcases set_get e with ⟨_, z⟩ | ⟨hj, z⟩
    · cases z
    · exact ⟨z, List.getElem?_set_ne hj⟩
  refine ⟨⟨A.le, by simpa using A.len, fun j d' e => ?_, fun j c e => ?_, fun j l c c' e1 e2 e3 => ?_, A.tab⟩, Same.refl _, fun _ _ h _ n _ => ⟨h, n⟩, fun a ⟨j, c, e1, e2⟩ => ?_, fun _ h => h⟩
  · rcases set_get e with ⟨hj, z⟩ | ⟨hj, z⟩
    · cases z; subst hj
      have hl : i < σ.length := by
        rw [A.len]
        have := (List.getElem?_eq_some_iff.mp e).1
        simpa using this
      exact ⟨v, List.getElem?_set_self hl, r⟩
    · rw [List.getElem?_set_ne hj]; exact A.dat j d' z
  · obtain ⟨z, e1⟩ := keep e
    rw [e1]; exact A.own j c z
  · obtain ⟨z1, q1⟩ := keep e1
    obtain ⟨z2, q2⟩ := keep e2
    rw [q1, q2] at e3
    exact A.inj j l c c' z1 z2 e3
  · obtain ⟨z, q⟩ := keep e1
    rw [q] at e2
    exact .inl ⟨j, c, z, e2⟩
theorem Abs.setOwn {K : PySem.W.Frag} {σ : St} {τ : DS} {H S : Hp} {p : Addr} {o : HO} {c : Cn} (A : Abs g K σ H τ S) (i : Nat) (hp : H p = some o) (n : S p = none) (no : ¬ Own σ τ p) (r : RepC g K S p o c) :
    Abs g K (σ.set i (some (.ref p))) H (τ.set i (.own c)) S ∧ (∀ a, Own (σ.set i (some (.ref p))) (τ.set i (.own c)) a → Own σ τ a ∨ a = p) := by
  have hl : ∀ {x : SV}, (τ.set i (SV.own c))[i]? = some x → i < σ.length := fun {x} e => by
    rw [A.len]
    have := (List.getElem?_eq_some_iff.mp e).1
    simpa using this
  refine ⟨⟨A.le, by simpa using A.len, fun j d' e => ?_, fun j c' e => ?_, fun j l c1 c2 e1 e2 e3 => ?_, A.tab⟩, fun a ⟨j, c', e1, e2⟩ => ?_⟩
  · rcases set_get e with ⟨hj, z⟩ | ⟨hj, z⟩
    · cases z
    · rw [List.getElem?_set_ne hj]; exact A.dat j d' z
  · rcases set_get e with ⟨hj, z⟩ | ⟨hj, z⟩
    · cases z; subst hj
      exact ⟨p, o, List.getElem?_set_self (hl e), hp, n, r⟩
    · rw [List.getElem?_set_ne hj]; exact A.own j c' z
  · rcases set_get e1 with ⟨h1, z1⟩ | ⟨h1, z1⟩ <;> rcases set_get e2 with ⟨h2, z2⟩ | ⟨h2, z2⟩
    · exact h1.symm.trans h2
    · subst h1
      rw [List.getElem?_set_self (hl e1), List.getElem?_set_ne h2] at e3
      exact absurd ⟨l, c2, z2, e3.symm⟩ no
    · subst h2
      rw [List.getElem?_set_ne h1, List.getElem?_set_self (hl e2)] at e3
      exact absurd ⟨j, c1, z1, e3⟩ no
    · rw [List.getElem?_set_ne h1, List.getElem?_set_ne h2] at e3
      exact A.inj j l c1 c2 z1 z2 e3
  · rcases set_get e1 with ⟨h1, z1⟩ | ⟨h1, z1⟩
    · subst h1
      rw [List.getElem?_set_self (hl e1)] at e2
      cases e2
      exact .inr rfl
    · rw [List.getElem?_set_ne h1] at e2
      exact .inl ⟨j, c', z1, e2⟩
def putR (i : Nat) (r : RV) (τ : DS) : SRes := match r with
  | .dat d => .nx (τ.set i (.dat d))
  | .fr c => .nx (τ.set i (.own c))
  | .slot j => (force (.slot j) τ).toS fun d τ1 => .nx (τ1.set i (.dat d))
def mSet (i : Nat) (me : DS → Res RV) : DS → SRes := fun τ => (me τ).toS (putR i)
theorem ext_setOwn {K : PySem.W.Frag} {σ σ1 : St} {τ τ1 : DS} {H S H1 S1 : Hp} {p : Addr} {c : Cn} {i : Nat} (e : Ext σ τ H S σ1 τ1 H1 S1) (h0 : H p = none) (f : ∀ a, Own (σ1.set i (some (.ref p))) (τ1.set i (.own c)) a → Own σ1 τ1 a ∨ a = p) :
    Ext σ τ H S (σ1.set i (some (.ref p))) (τ1.set i (.own c)) H1 S1 :=
  ⟨e.st, e.pv, fun a z => by
    rcases f a z with z | z
    · exact e.ow a z
    · subst z; exact .inr h0, e.al⟩
theorem put_ok {K : PySem.W.Frag} {D : Ends} {i : Nat} {r : RV} {v : V} {σ : St} {τ τ1 : DS} {H S H1 S1 : Hp} (hk : k i = false) (A1 : Abs g K σ H1 τ1 S1) (e1 : Ext σ τ H S σ τ1 H1 S1) (rv : RepV g K σ τ1 H H1 S1 v r) (h : FinS g K W k σ τ H S (putR i r τ1) D) : D.nx (σ.set i (some v)) H1 := by
  cases rv with
  | dat rd =>
    obtain ⟨A2, e2⟩ := A1.set i rd
    exact h _ _ _ A2 (e1.trans e2) (Pr.set hk)
  | fr h0 hp n no rc =>
    obtain ⟨A2, f⟩ := A1.setOwn i hp n no rc
    exact h _ _ _ A2 (ext_setOwn (K := K) e1 h0 f) (Pr.set hk)
  | slot hs =>
    rename_i j
    unfold putR at h
    dsimp only at h
    unfold DL.force at h
    dsimp only at h
    cases q : τ1[j]? with
    | none => rw [q] at h; exact h.elim
    | some sv =>
      rw [q] at h
      cases sv with
      | emp => exact h.elim
      | dat d =>
        obtain ⟨w, e2, r⟩ := A1.dat j d q
        rw [hs] at e2; cases e2
        obtain ⟨A2, e2⟩ := A1.set i r
        exact h _ _ _ A2 (e1.trans e2) (Pr.set hk)
      | own c =>
        obtain ⟨a, o, e2, h2, n2, r⟩ := A1.own j c q
        rw [hs] at e2; cases e2
        obtain ⟨A3, e3⟩ := A1.freezeSlot q hs h2 n2 r
        obtain ⟨A2, e2⟩ := A3.set i ((r.mono (Same.upd_new n2)).rep (a := a) upd_same)
        exact h _ _ _ A2 ((e1.trans e3).trans e2) (Pr.set hk)
theorem ds_set (i : Nat) {x : Str} {pos' : Pos} (hN : X.N.Nodup) (he : DE X g W e me) (hk : k i = false := by rfl) (hi : X.N[i]? = some x := by rfl) (hx : Loc X.env.scope x := by first | exact Or.inl rfl | exact Or.inr rfl) (hs : swapsWith e (some (.Name x pos')) pos.line X.env = pure false := by rfl)
    (hf : X.fn x = true ∨ X.env.scope.names.lookup x = some .local := by first | exact .inl rfl | exact .inr rfl | assumption) : DSt X g W k (.Assign [.Name x pos'] e pos) (mSet i me) :=
  ⟨PS.imp (ps_set hN hi hx he.pe hs hf) fun _ _ _ ⟨τ, S, A, h⟩ => ⟨τ, S, A, by
    revert h
    unfold mSet
    generalize me τ = r
    intro h
    cases r with
    | stuck => exact h
    | err c τ1 => exact fun H1 S1 A1 e1 => h _ H1 S1 A1 e1 .refl
    | ok r τ1 => exact fun H1 S1 A1 e1 v rv => put_ok hk A1 e1 rv h⟩⟩
end
end DL
namespace DL
open PySem PySem.Spec PyProof.Rows L2
def LG (g : Gm) (K : PySem.W.Frag) (k : Nat → Bool) (mt : D → DS → Option DS) : TG := fun v σ H R => ∃ τ S d, Abs g K σ H τ S ∧ Rep g K S v d ∧ match mt d τ with
  | some τ' => ∀ σ', Abs g K σ' H τ' S → Ext σ τ H S σ' τ' H S → Pr k σ σ' → R σ' H
  | none => False
def LGs (g : Gm) (K : PySem.W.Frag) (k : Nat → Bool) (mt : List D → DS → Option DS) : TGs := fun vs σ H R => ∃ τ S ds, Abs g K σ H τ S ∧ RepL g K S vs ds ∧ match mt ds τ with
  | some τ' => ∀ σ', Abs g K σ' H τ' S → Ext σ τ H S σ' τ' H S → Pr k σ σ' → R σ' H
  | none => False
structure DG (X : Cx) (g : Gm) (k : Nat → Bool) (tg : Expr) (mt : D → DS → Option DS) : Prop where
  pg : PG X tg (LG g X.K k mt)
structure DGs (X : Cx) (g : Gm) (k : Nat → Bool) (tgs : List Expr) (mt : List D → DS → Option DS) : Prop where
  pgs : PGs X tgs (LGs g X.K k mt)
theorem PG.imp {X : Cx} {e : Expr} {t t' : TG} (h : PG X e t) (i : ∀ v σ H R, t' v σ H R → t v σ H R) : PG X e t' := ⟨fun pins s σ H v u Q I r q => h.run pins s σ H v u Q I r (i _ _ _ _ q)⟩
theorem PGs.imp {X : Cx} {e : List Expr} {t t' : TGs} (h : PGs X e t) (i : ∀ v σ H R, t' v σ H R → t v σ H R) : PGs X e t' := ⟨fun pins s σ H v u Q I r q => h.run pins s σ H v u Q I r (i _ _ _ _ q)⟩
def tgN (i : Nat) : D → DS → Option DS := fun d τ => some (τ.set i (.dat d))
def tgNil : List D → DS → Option DS := fun ds τ => match ds with
  | [] => some τ
  | _ => none
def tgCons (a : D → DS → Option DS) (b : List D → DS → Option DS) : List D → DS → Option DS := fun ds τ => match ds with
  | d :: ds => (a d τ).bind (b ds)
  | [] => none
def tgT (n : Nat) (b : List D → DS → Option DS) : D → DS → Option DS := fun d τ => match d with
  | .tup ds => if ds.length = n then b ds τ else none
  | _ => none
section
variable {X : Cx} {g : Gm} {W : WX} {k : Nat → Bool} {pos : Pos}
theorem dg_name (i : Nat) {x : Str} (hN : X.N.Nodup) (hk : k i = false := by rfl) (hi : X.N[i]? = some x := by rfl) (hx : Loc X.env.scope x := by first | exact Or.inl rfl | exact Or.inr rfl)
    (hf : X.fn x = true ∨ X.env.scope.names.lookup x = some .local := by first | exact .inl rfl | exact .inr rfl | assumption) : DG X g k (.Name x pos) (tgN i) := by
  refine ⟨PG.imp (pg_name hN hi hx hf) fun v σ H R ⟨τ, S, d, A, r, h⟩ => ?_⟩
  obtain ⟨A2, e2⟩ := A.set i r
  exact h _ A2 e2 (Pr.set hk)
theorem dgs_nil : DGs X g k [] tgNil := by
  refine ⟨PGs.imp pgs_nil fun vs σ H R ⟨τ, S, ds, A, r, h⟩ => ?_⟩
  cases r with
  | nil => exact ⟨rfl, h σ A .refl .refl⟩
  | cons _ _ => exact h.elim
theorem dgs_cons {e : Expr} {es : List Expr} {a : D → DS → Option DS} {b : List D → DS → Option DS} (h1 : DG X g k e a) (h2 : DGs X g k es b)
    (hs : (assignEach (e :: es) X.env).map (·.2) = assign e X.env :: (assignEach es X.env).map (·.2) := by rfl) : DGs X g k (e :: es) (tgCons a b) := by
  refine ⟨PGs.imp (pgs_cons h1.pg h2.pgs hs) fun vs σ H R ⟨τ, S, ds, A, r, h⟩ => ?_⟩
  cases r with
  | nil => exact h.elim
  | @cons v vs d ds rv rs =>
    refine ⟨v, vs, rfl, τ, S, d, A, rv, ?_⟩
    unfold tgCons at h
    dsimp only at h
    cases q : a d τ with
    | none => rw [q] at h; exact h.elim
    | some τ1 =>
      rw [q] at h
      refine fun σ1 A1 e1 p1 => ⟨τ1, S, ds, A1, rs, ?_⟩
      dsimp only [Option.bind_some] at h
      cases q2 : b ds τ1 with
      | none => rw [q2] at h; exact h.elim
      | some τ2 =>
        rw [q2] at h
        exact fun σ2 A2 e2 p2 => h σ2 A2 (e1.trans e2) (p1.trans p2)
theorem dg_tup {es : List Expr} {j n : Nat} {b : List D → DS → Option DS} (hc : X.calm = true) (h : DGs X g k es b)
    (hn : (assignEach es X.env).length = n := by rfl) (hst : (assignEach es X.env).findIdx? (·.1) = none := by rfl) : DG X g k (.Tuple es j pos) (tgT n b) := by
  refine ⟨PG.imp (pg_tup hc h.pgs hn hst) fun v σ H R ⟨τ, S, d, A, r, h⟩ => ?_⟩
  cases r with
  | @tup a vs ds hs rl =>
    unfold tgT at h
    dsimp only at h
    by_cases hl : ds.length = n
    · rw [if_pos hl] at h
      exact ⟨a, vs, rfl, Same.seqT A.le hs, rl.length.trans hl, τ, S, ds, A, rl, h⟩
    · rw [if_neg hl] at h; exact h.elim
  | _ => exact h.elim
def mAsg (mt : D → DS → Option DS) (me : DS → Res RV) : DS → SRes := fun τ => ((me τ).bind force).toS fun d τ1 => match mt d τ1 with
  | some τ2 => .nx τ2
  | none => .stuck
theorem asg_end {K : PySem.W.Frag} {mt : D → DS → Option DS} {σ : St} {τ : DS} {H S : Hp} {d : D} {v : V} {D : Ends} (A : Abs g K σ H τ S) (r : Rep g K S v d) (h : FinS g K W k σ τ H S (match mt d τ with | some τ2 => .nx τ2 | none => .stuck) D) :
    LG g K k mt v σ H D.nx := by
  refine ⟨τ, S, d, A, r, ?_⟩
  cases q : mt d τ with
  | none => rw [q] at h; exact h
  | some τ2 => rw [q] at h; exact fun σ' A2 e2 p2 => h σ' H S A2 e2 p2
theorem ds_asg {tg e : Expr} {me : DS → Res RV} {mt : D → DS → Option DS} (he : DE X g W e me) (hg : DG X g k tg mt) (hs : swapsWithSole [tg] e pos.line X.env = pure false := by rfl) (hw : swappedStores [tg] e X.env = pure none := by rfl)
    (h1 : (assignEach [tg] X.env).map (·.2) = [assign tg X.env] := by rfl) : DSt X g W k (.Assign [tg] e pos) (mAsg mt me) := by
  refine ⟨PS.imp (ps_asg he.pe hg.pg hs hw h1) fun D σ H ⟨τ, S, A, h⟩ => ⟨τ, S, A, ?_⟩⟩
  revert h
  unfold mAsg
  generalize me τ = r
  intro h
  cases r with
  | stuck => exact h
  | err c τ1 => exact fun H1 S1 A1 e1 => h _ H1 S1 A1 e1 .refl
  | ok r τ1 =>
    intro H1 S1 A1 e1 v rv
    have h2 := FinS.toS (r := DL.force r τ1) h
    have h3 : FinP g X.K W σ τ H S ((DL.force r τ1).bind fun d τ1 => .ok d τ1) (fun τ1 d H1 S1 => FinS g X.K W k σ τ1 H1 S1 (match mt d τ1 with | some τ2 => .nx τ2 | none => .stuck) D) := by
      revert h2
      generalize DL.force r τ1 = q
      intro h2
      cases q <;> exact h2
    obtain ⟨τ2, S2, d, A2, e2, rd, _, _, h4⟩ := FinP.force A1 e1 (.inl rv) h3
    exact asg_end A2 rd (h4 H1 S2 A2 e2)
end
theorem FinS.toS0 {g : Gm} {K : PySem.W.Frag} {W : WX} {k : Nat → Bool} {σ : St} {τ : DS} {H S : Hp} {D : Ends} {α : Type} {r : Res α} {f : α → DS → SRes} (h : FinS g K W k σ τ H S (r.toS f) D) : FinP g K W σ τ H S r fun τ1 a H1 S1 => FinS g K W k σ τ H S (f a τ1) D := by
  cases r with
  | ok a τ' => exact fun H' S' A e => h
  | err c τ' => exact fun H' S' A e => h σ H' S' A e Pr.refl
  | stuck => exact h
def fixV (r : RV) (τ : DS) : Res SV := match r with
  | .dat d => .ok (.dat d) τ
  | .fr c => .ok (.own c) τ
  | .slot i => (force (.slot i) τ).bind fun d τ1 => .ok (.dat d) τ1
def mPar (i j : Nat) (ma : DS → Res (List RV)) : DS → SRes := fun τ => (ma τ).toS fun rs τ1 => match rs with
  | [r1, r2] => ((fixV r1 τ1).bind fun s1 τ2 => (fixV r2 τ2).bind fun s2 τ3 => .ok (s1, s2) τ3).toS fun p τ4 => .nx ((τ4.set i p.1).set j p.2)
  | _ => .stuck
inductive RepS (g : Gm) (K : PySem.W.Frag) (σ : St) (τ : DS) (H0 H S : Hp) : V → SV → Prop
  | dat {v : V} {d : D} : Rep g K S v d → RepS g K σ τ H0 H S v (.dat d)
  | own {p : Addr} {o : HO} {c : Cn} : H0 p = none → H p = some o → S p = none → ¬ Own σ τ p → RepC g K S p o c → RepS g K σ τ H0 H S (.ref p) (.own c)
section
variable {g : Gm} {K : PySem.W.Frag} {W : WX} {α β : Type} {σ σ1 : St} {τ τ1 τ2 : DS} {H0 H S H1 S1 : Hp} {v : V}
theorem fix_ok {r : RV} {f : SV → DS → Res β} {post : DS → β → Hp → Hp → Prop} (A : Abs g K σ H τ S) (e : Ext σ τ1 H1 S1 σ τ H S) (rv : RepV g K σ τ H1 H S v r) (h : FinP g K W σ τ1 H1 S1 ((fixV r τ).bind f) post) :
    ∃ τ' S' sv, Abs g K σ H τ' S' ∧ Ext σ τ1 H1 S1 σ τ' H S' ∧ RepS g K σ τ' H1 H S' v sv ∧ ((∀ c, r ≠ .fr c) → ∃ d, sv = .dat d) ∧ (∀ u q, RepV g K σ τ H1 H S u q → RepV g K σ τ' H1 H S' u q) ∧ (∀ u q, RepS g K σ τ H1 H S u q → RepS g K σ τ' H1 H S' u q) ∧ FinP g K W σ τ1 H1 S1 (f sv τ') post := by
  cases rv with
  | dat r => exact ⟨τ, S, _, A, e, .dat r, fun _ => ⟨_, rfl⟩, fun _ _ x => x, fun _ _ x => x, h⟩
  | fr h0 hp n no r => exact ⟨τ, S, _, A, e, .own h0 hp n no r, fun z => absurd rfl (z _), fun _ _ x => x, fun _ _ x => x, h⟩
  | slot hs =>
    rename_i i
    unfold fixV at h
    dsimp only at h
    unfold DL.force at h
    dsimp only at h
    cases q : τ[i]? with
    | none => rw [q] at h; exact h.elim
    | some sv =>
      rw [q] at h
      cases sv with
      | emp => exact h.elim
      | dat d =>
        obtain ⟨w, e1, r⟩ := A.dat i d q
        rw [hs] at e1; cases e1
        exact ⟨τ, S, .dat d, A, e, .dat r, fun _ => ⟨_, rfl⟩, fun _ _ x => x, fun _ _ x => x, h⟩
      | own c =>
        obtain ⟨a, o, e1, h1, n1, r⟩ := A.own i c q
        rw [hs] at e1; cases e1
        obtain ⟨A', e'⟩ := A.freezeSlot q hs h1 n1 r
        have isOwn : Own σ τ a := ⟨i, c, q, hs⟩
        have sm : Same S (upd S a o) := Same.upd_new n1
        refine ⟨_, _, .dat c.d, A', e.trans e', .dat ((r.mono sm).rep upd_same), fun _ => ⟨_, rfl⟩, fun u q' x => ?_, fun u q' x => ?_, h⟩
        · cases x with
          | dat r => exact .dat (r.mono sm)
          | @fr p _ _ h0 h' n' no r =>
            have ne : p ≠ a := fun z => no (by rw [z]; exact isOwn)
            exact .fr h0 h' (by rw [upd_ne ne]; exact n') (fun z => no (own_sub z)) (r.mono sm)
          | slot h => exact .slot h
        · cases x with
          | dat r => exact .dat (r.mono sm)
          | @own p _ _ h0 h' n' no r =>
            have ne : p ≠ a := fun z => no (by rw [z]; exact isOwn)
            exact .own h0 h' (by rw [upd_ne ne]; exact n') (fun z => no (own_sub z)) (r.mono sm)
theorem Abs.setS (A : Abs g K σ H τ S) {H0 S0 : Hp} {σ0 : St} {τ0 : DS} (e : Ext σ0 τ0 H0 S0 σ τ H S) (i : Nat) {sv : SV} (x : RepS g K σ τ H0 H S v sv) : Abs g K (σ.set i (some v)) H (τ.set i sv) S ∧ Ext σ0 τ0 H0 S0 (σ.set i (some v)) (τ.set i sv) H S ∧
    (∀ u q, RepS g K σ τ H0 H S u q → ((∃ c, sv = .own c) → (∃ c, q = .own c) → u ≠ v) → RepS g K (σ.set i (some v)) (τ.set i sv) H0 H S u q) := by
  cases x with
  | dat r =>
    obtain ⟨A2, e2⟩ := A.set i r
    refine ⟨A2, e.trans e2, fun u q y _ => ?_⟩
    cases y with
    | dat r => exact .dat r
    | own h0 hp n no r =>
      refine .own h0 hp n (fun z => ?_) r
      rcases e2.ow _ z with z | z
      · exact no z
      · rw [hp] at z; cases z
  | own h0 hp n no r =>
    obtain ⟨A2, f⟩ := A.setOwn i hp n no r
    refine ⟨A2, ext_setOwn (K := K) e h0 f, fun u q y ne => ?_⟩
    cases y with
    | dat r => exact .dat r
    | own h0' hp' n' no' r' =>
      refine .own h0' hp' n' (fun z => ?_) r'
      rcases f _ z with z | z
      · exact no' z
      · exact ne ⟨_, rfl⟩ ⟨_, rfl⟩ (by rw [z])
end
section
variable {X : Cx} {g : Gm} {W : WX} {k : Nat → Bool} {pos : Pos}
theorem ds_par (i j : Nat) {x y : Str} {a b : Expr} {ma : DS → Res (List RV)} {px py pt : Pos} {kt k2 pt2} (hc : X.calm = true) (hN : X.N.Nodup) (ha : DA X g W [a, b] ma) (hki : k i = false := by rfl) (hkj : k j = false := by rfl) (hi : X.N[i]? = some x := by rfl) (hj : X.N[j]? = some y := by rfl) (hij : i ≠ j := by decide)
    (hx : X.env.scope.names.lookup x = some .local := by rfl) (hy : X.env.scope.names.lookup y = some .local := by rfl)
    (hw : swappedStores [.Tuple [.Name x px, .Name y py] kt pt] (.Tuple [a, b] k2 pt2) X.env = pure (some [x, y]) := by rfl)
    (hs : swapsWithSole [.Tuple [.Name x px, .Name y py] kt pt] (.Tuple [a, b] k2 pt2) pos.line X.env = pure false := by rfl) :
    DSt X g W k (.Assign [.Tuple [.Name x px, .Name y py] kt pt] (.Tuple [a, b] k2 pt2) pos) (mPar i j ma) := by
  refine ⟨PS.imp (ps_par hc hN hi hj hij hx hy ha.pa hw hs) fun D σ H ⟨τ, S, A, h⟩ => ⟨τ, S, A, ?_⟩⟩
  revert h
  unfold mPar
  generalize ma τ = r
  intro h
  cases r with
  | stuck => exact h
  | err c τ1 => exact fun H1 S1 A1 e1 => h _ H1 S1 A1 e1 .refl
  | ok rs τ1 =>
    intro H1 S1 A1 e1 vs rvs
    cases rvs with
    | nil => exact h.elim
    | @cons v1 _ r1 _ rv1 rvs ne =>
      cases rvs with
      | nil => exact h.elim
      | @cons v2 _ r2 _ rv2 rvs _ =>
        cases rvs with
        | cons _ _ _ => exact h.elim
        | nil =>
          have h2 := FinS.toS0 (g := g) (K := X.K) (r := (fixV r1 τ1).bind fun s1 τ2 => (fixV r2 τ2).bind fun s2 τ3 => Res.ok (s1, s2) τ3) h
          obtain ⟨τ2, S2, s1, A2, e2, x1, d1, mv, ms, h3⟩ := fix_ok A1 e1 rv1 h2
          obtain ⟨τ3, S3, s2, A3, e3, x2, d2, mv2, ms2, h4⟩ := fix_ok A2 e2 (mv _ _ rv2) h3
          have h5 := h4 H1 S3 A3 e3
          obtain ⟨A4, e4, k4⟩ := A3.setS e3 i (ms2 _ _ x1)
          obtain ⟨A5, e5, _⟩ := A4.setS e4 j (k4 _ _ x2 fun ⟨c, q⟩ ⟨c', q'⟩ => by
            have f1 : ∃ c, r1 = .fr c := Classical.byContradiction fun z => by
              obtain ⟨d, hd⟩ := d1 fun c hc => z ⟨c, hc⟩
              rw [hd] at q; cases q
            have f2 : ∃ c, r2 = .fr c := Classical.byContradiction fun z => by
              obtain ⟨d, hd⟩ := d2 fun c hc => z ⟨c, hc⟩
              rw [hd] at q'; cases q'
            obtain ⟨c1, f1⟩ := f1
            obtain ⟨c2, f2⟩ := f2
            exact ne c1 f1 v2 r2 (by simp) c2 f2)
          exact ⟨v1, v2, rfl, h5 _ _ _ A5 e5 ((Pr.set hki).trans (Pr.set hkj))⟩
end
end DL
namespace DL
open PySem PySem.Spec PyProof.Rows L2
def ItOk (g : Gm) (K : PySem.W.Frag) (J : It) (S0 : Hp) (xs : List D) : Prop := ∀ i H S, Same S0 S → Same S H →
  (∀ d, xs[i]? = some d → J.go i H ∧ ∀ x H', J.yld i H x H' → ∃ S', Same S S' ∧ Same S' H' ∧ Same H H' ∧ Rep g K S' x d ∧ ∀ a, S a = none → H a ≠ none → S' a = none) ∧ (xs.length ≤ i → J.stop i H)
def LI (g : Gm) (K : PySem.W.Frag) (W : WX) (m : DS → Res (List D)) : TI := fun σ H R => ∃ τ S, Abs g K σ H τ S ∧ FinP g K W σ τ H S (m τ) fun _ xs H' S' => ∀ J, ItOk g K J S' xs → R J H'
structure DI (X : Cx) (g : Gm) (W : WX) (tg iter : Expr) (m : DS → Res (List D)) : Prop where
  pi : PI X tg iter (LI g X.K W m)
theorem PI.imp {X : Cx} {tg iter : Expr} {t t' : TI} (h : PI X tg iter t) (i : ∀ σ H R, t' σ H R → t σ H R) : PI X tg iter t' := ⟨fun pins s σ H R I q => h.run pins s σ H R I (i _ _ _ q)⟩
section
variable {g : Gm} {K : PySem.W.Frag} {W : WX} {α β : Type} {σ σ1 : St} {τ τ1 τ2 : DS} {H0 H S H1 S1 H' S' : Hp} {v : V} {J : It} {xs : List D}
theorem Same.of_le {a : Addr} (h : Same S H) (n : H a = none) : S a = none := by
  cases q : S a with
  | none => rfl
  | some o => have := h _ _ q; rw [n] at this; cases this
theorem Abs.step (A : Abs g K σ H τ S) (h1 : Same S S') (h2 : Same S' H') (h3 : Same H H') (h4 : ∀ a, S a = none → H a ≠ none → S' a = none) : Abs g K σ H' τ S' ∧ Ext σ τ H S σ τ H' S' := by
  refine ⟨⟨h2, A.len, fun i d e => ?_, fun i c e => ?_, A.inj, A.tab.mono (fun _ _ e => h3 _ _ e) h1 fun a ps e n => h4 a n (by rw [e]; simp)⟩, h1, fun a o e _ n _ => ⟨h3 _ _ e, h4 a n (by rw [e]; simp)⟩, fun _ h => .inl h, fun a e => h3.free e⟩
  · obtain ⟨v, e1, r⟩ := A.dat i d e
    exact ⟨v, e1, r.mono h1⟩
  · obtain ⟨a, o, e1, e2, n, r⟩ := A.own i c e
    exact ⟨a, o, e1, h3 _ _ e2, h4 a n (by rw [e2]; simp), r.mono h1⟩
theorem itok_list {a : Addr} {vs : List V} {ds : List D} (h : ∀ S, Same S1 S → SqL K S a vs) (r : RepL g K S1 vs ds) : ItOk g K (Itl K a) S1 ds := by
  intro i H S s1 s2
  have hs : SqL K H a vs := s2.seq (h S s1)
  refine ⟨fun d e => ?_, fun hl => ⟨vs, hs, by rw [r.length]; exact hl⟩⟩
  obtain ⟨v, e1, r1⟩ := r.get e
  refine ⟨⟨vs, v, hs, e1⟩, fun x H' y => ?_⟩
  obtain ⟨rfl, y⟩ := y
  have e2 := y vs hs
  rw [e1] at e2; cases e2
  exact ⟨S, Same.refl _, s2, Same.refl _, r1.mono s1, fun _ n _ => n⟩
theorem itok_tup {a : Addr} {vs : List V} {ds : List D} (h : ∀ S, Same S1 S → SqT K S a vs) (r : RepL g K S1 vs ds) : ItOk g K (Itt K a) S1 ds := by
  intro i H S s1 s2
  have hs : SqT K H a vs := Same.seqT s2 (h S s1)
  refine ⟨fun d e => ?_, fun hl => ⟨vs, hs, by rw [r.length]; exact hl⟩⟩
  obtain ⟨v, e1, r1⟩ := r.get e
  refine ⟨⟨vs, v, hs, e1⟩, fun x H' y => ?_⟩
  obtain ⟨rfl, y⟩ := y
  have e2 := y vs hs
  rw [e1] at e2; cases e2
  exact ⟨S, Same.refl _, s2, Same.refl _, r1.mono s1, fun _ n _ => n⟩
def iRow (lo : Int) (n : Nat) : List D := (List.range n).map fun (i : Nat) => D.int (lo + i)
theorem iRow_get {lo : Int} {n i : Nat} {d : D} : (iRow lo n)[i]? = some d ↔ i < n ∧ d = .int (lo + i) := by
  unfold iRow
  rw [List.getElem?_map]
  by_cases h : i < n
  · rw [List.getElem?_range h]
    simp [h, eq_comm]
  · rw [List.getElem?_eq_none (by simpa using h)]
    simp [h]
theorem itok_range {lo : Int} {n : Nat} : ItOk g K (Itr lo n) S1 (iRow lo n) := by
  intro i H S s1 s2
  refine ⟨fun d e => ?_, fun hl => show n ≤ i by simpa [iRow] using hl⟩
  obtain ⟨hi, rfl⟩ := iRow_get.mp e
  refine ⟨hi, fun x H' y => ?_⟩
  obtain ⟨rfl, rfl⟩ := y
  exact ⟨S, Same.refl _, s2, Same.refl _, .int _, fun _ n _ => n⟩
end
section
variable {X : Cx} {g : Gm} {W : WX} {k : Nat → Bool} {tg e : Expr} {me : DS → Res RV} {pos : Pos}
def itemsOf (d : D) (τ : DS) : Res (List D) := match d with
  | .lst ds => .ok ds τ
  | .rol ds => .ok ds τ
  | .tup ds => .ok ds τ
  | _ => .stuck
def mIter (me : DS → Res RV) : DS → Res (List D) := fun τ => ((me τ).bind force).bind itemsOf
theorem FinP.bind0 {K : PySem.W.Frag} {α β : Type} {σ : St} {τ : DS} {H S : Hp} {r : Res α} {f : α → DS → Res β} {p : DS → β → Hp → Hp → Prop} (h : FinP g K W σ τ H S (r.bind f) p) : FinP g K W σ τ H S r fun τ1 a _ _ => FinP g K W σ τ H S (f a τ1) p := by
  cases r with
  | ok a τ' => exact fun H' S' A e => h
  | err c τ' => exact h
  | stuck => exact h
theorem FinP.at {K : PySem.W.Frag} {α : Type} {σ : St} {τ τ1 : DS} {H S H1 S1 : Hp} {a : α} {p : DS → α → Hp → Hp → Prop} (h : FinP g K W σ τ H S (.ok a τ1) p) (A : Abs g K σ H1 τ1 S1) (e : Ext σ τ H S σ τ1 H1 S1) : p τ1 a H1 S1 := h H1 S1 A e
theorem di_seq (he : DE X g W e me) : DI X g W tg e (mIter me) := by
  refine ⟨⟨fun pins s σ H R I h => ?_⟩⟩
  have h' : LE g X.K W me σ H fun v H1 => (∃ a, v = .ref a ∧ (∃ xs, SqL X.K H1 a xs) ∧ R (Itl X.K a) H1) ∨ ∃ a, v = .ref a ∧ (∃ xs, SqT X.K H1 a xs) ∧ R (Itt X.K a) H1 := by
    obtain ⟨τ, S, A, h⟩ := h
    unfold mIter at h
    rw [Res.bind_assoc] at h
    refine ⟨τ, S, A, (FinP.bind0 h).mono fun τ1 r H1 S1 A1 e1 h1 v rv => ?_⟩
    obtain ⟨τ2, S2, d, A2, e2, rd, _, _, h2⟩ := FinP.force A1 e1 (.inl rv) h1
    cases rd with
    | @tup a vs ds hs rl => exact .inr ⟨a, rfl, ⟨vs, Same.seqT A2.le hs⟩, FinP.at h2 A2 e2 _ (itok_tup (fun S s => Same.seqT s hs) rl)⟩
    | @lst a vs ds hs rl => exact .inl ⟨a, rfl, ⟨vs, SqL.of (A2.le _ _ hs)⟩, FinP.at h2 A2 e2 _ (itok_list (fun S s => SqL.of (s _ _ hs)) rl)⟩
    | @rol a vs ds hs rl => exact .inl ⟨a, rfl, ⟨vs, A2.le.seq hs⟩, FinP.at h2 A2 e2 _ (itok_list (fun S s => s.seq hs) rl)⟩
    | _ => exact h2.elim
  refine thn (he.pe.run pins s σ H _ I h') fun v s1 ⟨x, H1, I1, r1, q1⟩ => ?_
  rcases q1 with ⟨a, ex, ⟨xs, hq⟩, q⟩ | ⟨a, ex, ⟨xs, hq⟩, q⟩
  · subst ex
    cases r1
    obtain ⟨its, rv, p, hz⟩ := I1.list hq
    refine wpAny_pyIter_list p.isList ?_
    refine ⟨s1.heap.objs.size, [s1.heap.objs.size], _, _, H1, rfl, I1.kept (t' := s1.toks) fun b o e => Heap.get?_push_of_some _ e, turn_list a _, ⟨_, Heap.get?_push_size _ rfl, rfl, rfl⟩, fun b hb => ?_, q⟩
    have e : b = s1.heap.objs.size := by simpa using hb
    subst e
    exact I1.fpOk (Nat.le_refl _) (I1.hok.fresh (Nat.le_refl _))
  · subst ex
    cases r1
    obtain ⟨its, rv, p, hz⟩ := I1.tuple hq
    refine wpAny_pyIter_tuple (show s1.heap.IsTuple a its.toArray from p) ?_
    refine ⟨s1.heap.objs.size, [s1.heap.objs.size], _, _, H1, rfl, I1.kept (t' := s1.toks) fun b o e => Heap.get?_push_of_some _ e, turn_tuple a _, ⟨_, Heap.get?_push_size _ rfl, rfl, rfl⟩, fun b hb => ?_, q⟩
    have e : b = s1.heap.objs.size := by simpa using hb
    subst e
    exact I1.fpOk (Nat.le_refl _) (I1.hok.fresh (Nat.le_refl _))
def rng1 (ds : List D) (τ : DS) : Res (List D) := match ds with
  | [.int n] => if -1000000000 ≤ n ∧ n < 1000000000 then .ok (iRow 0 n.toNat) τ else .stuck
  | _ => .stuck
def rng2 (ds : List D) (τ : DS) : Res (List D) := match ds with
  | [.int a, .int b] => if -1000000000 ≤ a ∧ a < 1000000000 ∧ -1000000000 ≤ b ∧ b < 1000000000 then .ok (iRow a (b - a).toNat) τ else .stuck
  | _ => .stuck
variable {ma : DS → Res (List RV)}
theorem LI.fast {K : PySem.W.Frag} {f : List D → DS → Res (List D)} {σ : St} {H : Hp} {R : It → Hp → Prop} (h : LI g K W (mFast ma f) σ H R) :
    LA g K W ma σ H fun vs H1 => ∃ τ0 S0 τ S ds, Abs g K σ H1 τ S ∧ Ext σ τ0 H S0 σ τ H1 S ∧ RepL g K S vs ds ∧ FinP g K W σ τ H1 S (f ds τ) fun _ xs H' S' => ∀ J, ItOk g K J S' xs → R J H' := by
  obtain ⟨τ, S, A, h⟩ := h
  refine ⟨τ, S, A, (LA.fast h).mono fun τ1 rs H1 S1 A1 e1 q vs rvs => ?_⟩
  obtain ⟨τ', S', ds, A', e', rl, h3⟩ := q vs rvs
  exact ⟨τ, S, τ', S', ds, A', e', rl, h3⟩
theorem di_range1 {a : Expr} {p : Pos} (hg : Gl X "range") (hm : X.mg "range" = none) (ha : DA X g W [a] ma) (hs : starEach [a] X.env = [(false, eval a X.env)] := by rfl) : DI X g W tg (.Call (.Name "range" p) [a] [] pos) (mFast ma rng1) := by
  refine ⟨PI.imp (pi_range1 hg hm ha.pa hs) fun σ H R h => (LI.fast h).mono fun vs H1 ⟨τ0, S0, τ, S, ds, A, e, rl, h1⟩ => ?_⟩
  match ds, rl, h1 with
  | [.int n], .cons (.int _) .nil, h1 =>
    obtain ⟨⟨b1, b2⟩, h2⟩ := fin_if h1
    exact ⟨n, rfl, by omega, by omega, FinP.here A h2 _ itok_range⟩
theorem di_range2 {a b : Expr} {p : Pos} (hg : Gl X "range") (hm : X.mg "range" = none) (ha : DA X g W [a, b] ma) (hs : starEach [a, b] X.env = [(false, eval a X.env), (false, eval b X.env)] := by rfl) (hs2 : starEach [b] X.env = [(false, eval b X.env)] := by rfl) :
    DI X g W tg (.Call (.Name "range" p) [a, b] [] pos) (mFast ma rng2) := by
  refine ⟨PI.imp (pi_range2 hg hm ha.pa hs hs2) fun σ H R h => (LI.fast h).mono fun vs H1 ⟨τ0, S0, τ, S, ds, A, e, rl, h1⟩ => ?_⟩
  match ds, rl, h1 with
  | [.int n, .int m], .cons (.int _) (.cons (.int _) .nil), h1 =>
    obtain ⟨⟨b1, b2, b3, b4⟩, h2⟩ := fin_if h1
    exact ⟨n, m, rfl, ⟨by omega, by omega, by omega, by omega⟩, FinP.here A h2 _ itok_range⟩
end
def forL (mt : D → DS → Option DS) (mb : DS → SRes) : List D → DS → SRes
  | [], τ => .nx τ
  | x :: xs, τ => match mt x τ with
    | none => .stuck
    | some τ1 => match mb τ1 with
      | .nx τ2 => forL mt mb xs τ2
      | .ct τ2 => forL mt mb xs τ2
      | .bk τ2 => .nx τ2
      | r => r
def mFor (mi : DS → Res (List D)) (mt : D → DS → Option DS) (mb : DS → SRes) : DS → SRes := fun τ => (mi τ).toS fun xs τ1 => forL mt mb xs τ1
section
variable {X : Cx} {g : Gm} {W : WX} {k : Nat → Bool} {tg iter : Expr} {body : List Stmt} {mi : DS → Res (List D)} {mt : D → DS → Option DS} {mb : DS → SRes} {pos : Pos}
theorem ds_for (hp : PassesOwn (model X.prog X.w) X.A X.env X.xe) (hc : X.calm = true) (hi : DI X g W tg iter mi) (hg : DG X g k tg mt) (hb : DSs X g W k body mb)
    (hs : ∀ x, foldedSetIterable iter X.env x = pure x := by intro _; rfl) : DSt X g W k (.For tg iter body [] pos) (mFor mi mt mb) := by
  refine ⟨PS.imp (ps_for hp hc hi.pi hg.pg hb.ps hs) fun D σ0 H0 ⟨τ0, S0, A0, h0⟩ => ⟨τ0, S0, A0, (FinS.toS h0).mono fun τ1 xs H1 S1 A1 _ h1 J hJ => ?_⟩⟩
  refine ⟨fun i m σ H => m = xs.length - i ∧ i ≤ xs.length ∧ ∃ τ S, Abs g X.K σ H τ S ∧ Same S1 S ∧ FinS g X.K W k σ τ H S (forL mt mb (xs.drop i) τ) D, ⟨xs.length, by omega, Nat.zero_le _, τ1, S1, A1, Same.refl _, h1⟩, ?_⟩
  rintro i m σ H ⟨rfl, hi, τ, S, A, sm, h⟩
  obtain ⟨go, stop⟩ := hJ i H S sm A.le
  by_cases hlt : i < xs.length
  · obtain ⟨g1, g2⟩ := go xs[i] (List.getElem?_eq_getElem hlt)
    refine .inr ⟨g1, fun σ' H' => ∃ τ' S', Abs g X.K σ' H' τ' S' ∧ Same S1 S' ∧ FinS g X.K W k σ' τ' H' S' (forL mt mb (xs.drop (i + 1)) τ') D, fun σ' H' ⟨τ', S', q⟩ => ⟨xs.length - (i + 1), by omega, rfl, hlt, τ', S', q⟩, fun x H2 y => ?_⟩
    obtain ⟨S2, s1, s2, s3, r, s4⟩ := g2 x H2 y
    obtain ⟨A2, e2⟩ := A.step s1 s2 s3 s4
    have h2 := FinS.ext h e2 .refl
    rw [List.drop_eq_getElem_cons hlt] at h2
    unfold forL at h2
    refine ⟨τ, S2, xs[i], A2, r, ?_⟩
    cases q : mt xs[i] τ with
    | none => rw [q] at h2; exact h2
    | some τ3 =>
      rw [q] at h2
      dsimp only at h2
      intro σ3 A3 e3 p3
      refine ⟨τ3, S2, A3, ?_⟩
      have h3 := FinS.ext h2 e3 p3
      revert h3
      generalize mb τ3 = r
      intro h3
      have sm2 : Same S1 S2 := sm.trans s1
      cases r with
      | nx τ4 => exact fun σ4 H4 S4 A4 e4 p4 => ⟨τ4, S4, A4, sm2.trans e4.st, FinS.ext h3 e4 p4⟩
      | ct τ4 => exact fun σ4 H4 S4 A4 e4 p4 => ⟨τ4, S4, A4, sm2.trans e4.st, FinS.ext h3 e4 p4⟩
      | bk τ4 => exact h3
      | rt r τ4 => exact h3
      | err c τ4 => exact h3
      | stuck => exact h3
  · have e : i = xs.length := by omega
    subst e
    rw [List.drop_length] at h
    exact .inl ⟨stop (Nat.le_refl _), FinS.here A h⟩
end
def whileN (c : DS → Res Bool) (b : DS → SRes) : Nat → DS → Option SRes
  | 0, _ => none
  | n + 1, τ => match c τ with
    | .ok true τ1 => match b τ1 with
      | .nx τ2 => whileN c b n τ2
      | .ct τ2 => whileN c b n τ2
      | .bk τ2 => some (.nx τ2)
      | r => some r
    | .ok false τ1 => some (.nx τ1)
    | .err c τ1 => some (.err c τ1)
    | .stuck => some .stuck
theorem whileN_mono {c : DS → Res Bool} {b : DS → SRes} : ∀ {n : Nat} {τ : DS} {r : SRes}, whileN c b n τ = some r → ∀ m, n ≤ m → whileN c b m τ = some r
  | 0, _, _, h, _, _ => by cases h
  | n + 1, τ, r, h, 0, hm => by omega
  | n + 1, τ, r, h, m + 1, hm => by
    unfold whileN at h ⊢
    revert h
    generalize c τ = q
    cases q with
    | ok d τ1 =>
      cases d with
      | true =>
        dsimp only
        generalize b τ1 = q
        cases q with
        | nx τ2 => exact fun h => whileN_mono h m (by omega)
        | ct τ2 => exact fun h => whileN_mono h m (by omega)
        | _ => exact fun h => h
      | false => exact fun h => h
    | _ => exact fun h => h
open Classical in
noncomputable def mWhile (c : DS → Res Bool) (b : DS → SRes) : DS → SRes := fun τ => if h : ∃ n r, whileN c b n τ = some r then h.choose_spec.choose else .stuck
theorem mWhile_of {c : DS → Res Bool} {b : DS → SRes} {n : Nat} {τ : DS} {r : SRes} (h : whileN c b n τ = some r) : mWhile c b τ = r := by
  have hx : ∃ n r, whileN c b n τ = some r := ⟨n, r, h⟩
  unfold mWhile
  rw [dif_pos hx]
  have h2 := hx.choose_spec.choose_spec
  have h3 := whileN_mono h (max n hx.choose) (Nat.le_max_left _ _)
  have h4 := whileN_mono h2 (max n hx.choose) (Nat.le_max_right _ _)
  exact Option.some.inj (h4.symm.trans h3)
theorem mWhile_eq (c : DS → Res Bool) (b : DS → SRes) (τ : DS) : mWhile c b τ = match c τ with
    | .ok true τ1 => match b τ1 with
      | .nx τ2 => mWhile c b τ2
      | .ct τ2 => mWhile c b τ2
      | .bk τ2 => .nx τ2
      | r => r
    | .ok false τ1 => .nx τ1
    | .err c τ1 => .err c τ1
    | .stuck => .stuck := by
  have key : ∀ τ τ2, (∀ n, whileN c b (n + 1) τ = whileN c b n τ2) → mWhile c b τ = mWhile c b τ2 := by
    intro τ τ2 h
    by_cases hx : ∃ n r, whileN c b n τ2 = some r
    · obtain ⟨n, r, q⟩ := hx
      rw [mWhile_of q, mWhile_of ((h n).trans q)]
    · have hy : ¬ ∃ n r, whileN c b n τ = some r := fun ⟨n, r, q⟩ => by
        cases n with
        | zero => cases q
        | succ n => exact hx ⟨n, r, (h n).symm.trans q⟩
      unfold mWhile
      rw [dif_neg hx, dif_neg hy]
  cases q : c τ with
  | ok d τ1 =>
    cases d with
    | true =>
      dsimp only
      cases q2 : b τ1 with
      | nx τ2 => exact key _ _ fun n => by simp only [whileN, q, q2]
      | ct τ2 => exact key _ _ fun n => by simp only [whileN, q, q2]
      | bk τ2 => exact mWhile_of (n := 1) (by simp only [whileN, q, q2])
      | rt r τ2 => exact mWhile_of (n := 1) (by simp only [whileN, q, q2])
      | err r τ2 => exact mWhile_of (n := 1) (by simp only [whileN, q, q2])
      | stuck => exact mWhile_of (n := 1) (by simp only [whileN, q, q2])
    | false => exact mWhile_of (n := 1) (by simp only [whileN, q])
  | err r τ2 => exact mWhile_of (n := 1) (by simp only [whileN, q])
  | stuck => exact mWhile_of (n := 1) (by simp only [whileN, q])
section
variable {X : Cx} {g : Gm} {W : WX} {k : Nat → Bool} {c : Expr} {body : List Stmt} {mc : DS → Res Bool} {mb : DS → SRes} {pos : Pos}
theorem ds_while (hp : PassesOwn (model X.prog X.w) X.A X.env X.xe) (hc : DT X g W c mc) (hb : DSs X g W k body mb) : DSt X g W k (.While c body [] pos) (mWhile mc mb) := by
  refine ⟨PS.imp (ps_while hp hc.pt hb.ps) fun D σ0 H0 ⟨τ0, S0, A0, h0⟩ => ?_⟩
  have hx : ∃ n r, whileN mc mb n τ0 = some r := Classical.byContradiction fun z => by
    unfold mWhile at h0
    rw [dif_neg z] at h0
    exact h0
  obtain ⟨n0, r0, q0⟩ := hx
  refine ⟨fun m σ H => ∃ τ S r, Abs g X.K σ H τ S ∧ whileN mc mb m τ = some r ∧ FinS g X.K W k σ τ H S r D, ⟨n0, τ0, S0, r0, A0, q0, by rw [mWhile_of q0] at h0; exact h0⟩, ?_⟩
  rintro m σ H ⟨τ, S, r, A, q, h⟩
  cases m with
  | zero => cases q
  | succ m =>
    unfold whileN at q
    refine ⟨τ, S, A, ?_⟩
    revert q
    generalize mc τ = d
    cases d with
    | ok d τ1 =>
      intro q H1 S1 A1 e1
      cases d with
      | false =>
        dsimp only at q
        cases q
        exact iteF (h _ _ _ A1 e1 .refl)
      | true =>
        dsimp only at q
        refine iteT ⟨fun σ' H' => ∃ τ' S' r', Abs g X.K σ' H' τ' S' ∧ whileN mc mb m τ' = some r' ∧ FinS g X.K W k σ' τ' H' S' r' D, fun σ' H' z => ⟨m, Nat.lt_succ_self _, z⟩, τ1, S1, A1, ?_⟩
        have h1 := FinS.ext h e1 .refl
        revert q
        generalize mb τ1 = r1
        intro q
        cases r1 with
        | nx τ2 => exact fun σ2 H2 S2 A2 e2 p2 => ⟨τ2, S2, r, A2, q, FinS.ext h1 e2 p2⟩
        | ct τ2 => exact fun σ2 H2 S2 A2 e2 p2 => ⟨τ2, S2, r, A2, q, FinS.ext h1 e2 p2⟩
        | bk τ2 => cases q; exact h1
        | rt r2 τ2 => cases q; exact h1
        | err r2 τ2 => cases q; exact h1
        | stuck => cases q; exact h1
    | err c τ1 => intro q; cases q; exact fun H1 S1 A1 e1 => h σ H1 S1 A1 e1 .refl
    | stuck => intro q; cases q; exact h
end
inductive FR where
  | ok (r : RV) | err (c : Nat) | stuck
inductive FB where
  | ok (r : RV) (c : Cn) | stuck
structure Xt (O : Addr → Prop) (H S H' S' : Hp) : Prop where
  st : Same S S'
  pv : ∀ a o, H a = some o → NT o → S a = none → ¬ O a → H' a = some o ∧ S' a = none
  al : ∀ a, H' a = none → H a = none
inductive RepR (g : Gm) (K : PySem.W.Frag) (H0 H S : Hp) : V → RV → Prop
  | dat {v : V} {d : D} : Rep g K S v d → RepR g K H0 H S v (.dat d)
  | fr {p : Addr} {o : HO} {c : Cn} : H0 p = none → H p = some o → S p = none → RepC g K S p o c → RepR g K H0 H S (.ref p) (.fr c)
def spP (g : Gm) (K : PySem.W.Frag) (n : Nat) (F : List D → FR) : Sp := fun vs H Q E => ∃ S ds, (Same S H ∧ TabD g.tabs H S) ∧ RepL g K S vs ds ∧ ds.length = n ∧ match F ds with
  | .ok r => ∀ v H' S', (Same S' H' ∧ TabD g.tabs H' S') → Xt (fun _ => False) H S H' S' → RepR g K H H' S' v r → Q v H'
  | .err c => ∀ H' S', (Same S' H' ∧ TabD g.tabs H' S') → Xt (fun _ => False) H S H' S' → E (.ref (g c)) none H'
  | .stuck => False
def spB (g : Gm) (K : PySem.W.Frag) (n : Nat) (F : Cn → List D → FB) : Sp := fun vs H Q E => ∃ S p o c vr ds, vs = .ref p :: vr ∧ (Same S H ∧ TabD g.tabs H S) ∧ H p = some o ∧ S p = none ∧ RepC g K S p o c ∧ RepL g K S vr ds ∧ ds.length + 1 = n ∧ match F c ds with
  | .ok r c' => ∀ v H' S' o', (Same S' H' ∧ TabD g.tabs H' S') → Xt (fun a => a = p) H S H' S' → H' p = some o' → S' p = none → RepC g K S' p o' c' → RepR g K H H' S' v r → Q v H'
  | .stuck => False
def runF (n : Nat) (m : DS → SRes) (ds : List D) : FR := match m (ds.map SV.dat ++ List.replicate (n - ds.length) .emp) with
  | .rt r _ => .ok r
  | .nx _ => .ok (.dat .non)
  | .err c _ => .err c
  | _ => .stuck
def outB (r : RV) (τ : DS) : FB := match τ with
  | .own c' :: _ => .ok r c'
  | _ => .stuck
def runB (n : Nat) (m : DS → SRes) (c : Cn) (ds : List D) : FB := match m (.own c :: (ds.map SV.dat ++ List.replicate (n - 1 - ds.length) .emp)) with
  | .rt r τ => outB r τ
  | .nx τ => outB (.dat .non) τ
  | _ => .stuck
section
variable {P : Program} {w : World} {K : PySem.W.Frag} {mg : Str → Option Value} {base : Heap} {g : Gm} {σ : St} {τ : DS} {H S : Hp}
theorem start_val {vs : List V} {n i : Nat} {x : V} (h : vs[i]? = some x) : (vs.map some ++ List.replicate n none)[i]? = some (some x) := by
  have hi : i < vs.length := (List.getElem?_eq_some_iff.mp h).1
  rw [List.getElem?_append_left (by simpa using hi), List.getElem?_map, h]
  rfl
theorem slots_get {ds : List D} {n i : Nat} {x : SV} (h : (ds.map SV.dat ++ List.replicate n .emp)[i]? = some x) : (∃ d, ds[i]? = some d ∧ x = .dat d) ∨ x = .emp := by
  by_cases hi : i < ds.length
  · rw [List.getElem?_append_left (by simpa using hi), List.getElem?_map, List.getElem?_eq_getElem hi] at h
    exact .inl ⟨ds[i], List.getElem?_eq_getElem hi, (Option.some.inj h).symm⟩
  · rw [List.getElem?_append_right (by simpa using hi), List.getElem?_replicate] at h
    split at h
    · exact .inr (Option.some.inj h).symm
    · cases h
theorem abs_start {vs : List V} {ds : List D} {n : Nat} (le : Same S H ∧ TabD g.tabs H S) (r : RepL g K S vs ds) : Abs g K (vs.map some ++ List.replicate n none) H (ds.map SV.dat ++ List.replicate n .emp) S where
  le := le.1
  tab := le.2
  len := by simp [r.length]
  dat := fun i d e => by
    rcases slots_get e with ⟨d', e1, e2⟩ | e2
    · cases e2
      obtain ⟨v, e3, r3⟩ := r.get e1
      exact ⟨v, start_val e3, r3⟩
    · cases e2
  own := fun i c e => by
    rcases slots_get e with ⟨d', e1, e2⟩ | e2 <;> cases e2
  inj := fun i j c c' e _ _ => by
    rcases slots_get e with ⟨d', e1, e2⟩ | e2 <;> cases e2
theorem own_start {ds : List D} {n : Nat} {a : Addr} (h : Own σ (ds.map SV.dat ++ List.replicate n .emp) a) : False := by
  obtain ⟨i, c, e, _⟩ := h
  rcases slots_get e with ⟨d', e1, e2⟩ | e2 <;> cases e2
theorem _root_.L2.Fun.okN {x qual : Str} {st : Stmt} {f : Addr} {fd : FuncData} {N ps : List Str} {k : Nat} {sp : Sp} (F : Fun K x qual st f fd) (Sc : FnScope N ps (defScope st)) (len : ∀ vs H Q E, sp vs H Q E → vs.length = ps.length)
    (hb : ∀ (cdv : Value) (A : Around) (outer : List Env) (s : Shared) (H : Hp) (vs : List V) (Q : VK) (E : XK), Room k (A.deeper (envOfC qual (defScope st) s.heap.objs.size f cdv)) → sp vs H Q E →
      ∃ t, PSs (cxOf (L2N.CX P w) P w K mg base N qual (defScope st) f cdv A outer s H E) (defBody st) t ∧ t { nx := fun _ H' => Q .non H', rt := Q } (L2.start N vs) H) : FnOk P w K mg base (L2N.CX P w) (k + 1) f fd ps sp := by
  obtain ⟨_, _, _, _, _, _, _, _, _, rfl, lk, hcd⟩ := F.ex
  exact fn_of lk hcd Sc len fun A outer s H vs Q E hr z => hb _ A outer s H vs Q E hr z
theorem fn_p {x qual : Str} {st : Stmt} {f : Addr} {fd : FuncData} {N ps : List Str} {lv : Nat} {m : DS → SRes} (F : Fun K x qual st f fd) (Sc : FnScope N ps (defScope st))
    (hb : ∀ (cdv : Value) (A : Around) (outer : List Env) (s : Shared) (H : Hp) (E : XK), Room lv (A.deeper (envOfC qual (defScope st) s.heap.objs.size f cdv)) → DSs (cxOf (L2N.CX P w) P w K mg base N qual (defScope st) f cdv A outer s H E) g (fun cls d _ H => E cls d H) (fun _ => false) (defBody st) m) :
    FnOk P w K mg base (L2N.CX P w) (lv + 1) f fd ps (spP g K ps.length (runF N.length m)) := by
  refine F.okN Sc (fun vs H Q E ⟨S, ds, _, rl, hl, _⟩ => rl.length.trans hl) fun cdv A outer s H vs Q E hr ⟨S, ds, le, rl, hl, h⟩ => ⟨_, (hb cdv A outer s H E hr).ps, ?_⟩
  unfold L2.start
  have el : N.length - vs.length = N.length - ds.length := by rw [rl.length]
  rw [el]
  refine ⟨ds.map SV.dat ++ List.replicate (N.length - ds.length) SV.emp, S, abs_start le rl, ?_⟩
  unfold runF at h
  revert h
  generalize m (ds.map SV.dat ++ List.replicate (N.length - ds.length) .emp) = r
  intro h
  have xt : ∀ {σ' : St} {τ' : DS} {H' S' : Hp}, Ext (vs.map some ++ List.replicate (N.length - ds.length) none) (ds.map SV.dat ++ List.replicate (N.length - ds.length) .emp) H S σ' τ' H' S' → Xt (fun _ => False) H S H' S' := fun e => ⟨e.st, fun a o h1 nt h2 _ => e.pv a o h1 nt h2 own_start, e.al⟩
  cases r with
  | nx τ' => exact fun σ' H' S' A e p => h .non H' S' ⟨A.le, A.tab⟩ (xt e) (.dat .non)
  | bk τ' => exact h.elim
  | ct τ' => exact h.elim
  | err c τ' => exact fun σ' H' S' A e p => h H' S' ⟨A.le, A.tab⟩ (xt e)
  | stuck => exact h.elim
  | rt r τ' =>
    refine fun σ' v H' S' A e p x => h v H' S' ⟨A.le, A.tab⟩ (xt e) ?_
    cases x with
    | dat r => exact .dat r
    | fr z hp n no r => exact .fr (z.resolve_left own_start) hp n r
theorem abs_startB {p : Addr} {o : HO} {c : Cn} {vs : List V} {ds : List D} {n : Nat} (le : Same S H ∧ TabD g.tabs H S) (hp : H p = some o) (np : S p = none) (rc : RepC g K S p o c) (r : RepL g K S vs ds) :
    Abs g K ((V.ref p :: vs).map some ++ List.replicate n none) H (.own c :: (ds.map SV.dat ++ List.replicate n .emp)) S where
  le := le.1
  tab := le.2
  len := by simp [r.length]
  dat := fun i d e => by
    cases i with
    | zero => simp at e
    | succ i =>
      rw [List.getElem?_cons_succ] at e
      rcases slots_get e with ⟨d', e1, e2⟩ | e2
      · cases e2
        obtain ⟨v, e3, r3⟩ := r.get e1
        exact ⟨v, by simpa using start_val (n := n) e3, r3⟩
      · cases e2
  own := fun i c' e => by
    cases i with
    | zero => simp at e; subst e; exact ⟨p, o, by simp, hp, np, rc⟩
    | succ i =>
      rw [List.getElem?_cons_succ] at e
      rcases slots_get e with ⟨d', e1, e2⟩ | e2 <;> cases e2
  inj := fun i j c1 c2 e1 e2 _ => by
    cases i with
    | zero => cases j with
      | zero => rfl
      | succ j =>
        rw [List.getElem?_cons_succ] at e2
        rcases slots_get e2 with ⟨d', _, z⟩ | z <;> cases z
    | succ i =>
      rw [List.getElem?_cons_succ] at e1
      rcases slots_get e1 with ⟨d', _, z⟩ | z <;> cases z
theorem own_startB {p : Addr} {c : Cn} {vs : List V} {ds : List D} {n : Nat} {a : Addr} (h : Own ((V.ref p :: vs).map some ++ List.replicate n none) (.own c :: (ds.map SV.dat ++ List.replicate n .emp)) a) : a = p := by
  obtain ⟨i, c', e, e'⟩ := h
  cases i with
  | zero => simp at e'; exact e'.symm
  | succ i =>
    rw [List.getElem?_cons_succ] at e
    rcases slots_get e with ⟨d', e1, e2⟩ | e2 <;> cases e2
theorem fn_b {x qual : Str} {st : Stmt} {f : Addr} {fd : FuncData} {N ps : List Str} {lv : Nat} {m : DS → SRes} (F : Fun K x qual st f fd) (Sc : FnScope N ps (defScope st))
    (hb : ∀ (cdv : Value) (A : Around) (outer : List Env) (s : Shared) (H : Hp) (E : XK), Room lv (A.deeper (envOfC qual (defScope st) s.heap.objs.size f cdv)) → DSs (cxOf (L2N.CX P w) P w K mg base N qual (defScope st) f cdv A outer s H E) g (fun cls d _ H => E cls d H) (fun i => i == 0) (defBody st) m) :
    FnOk P w K mg base (L2N.CX P w) (lv + 1) f fd ps (spB g K ps.length (runB N.length m)) := by
  refine F.okN Sc (fun vs H Q E ⟨S, p, o, c, vr, ds, ev, _, _, _, _, rl, hl, _⟩ => by rw [ev, List.length_cons, rl.length]; exact hl) fun cdv A outer s H vs Q E hr ⟨S, p, o, c, vr, ds, ev, le, hp, np, rc, rl, hl, h⟩ => ⟨_, (hb cdv A outer s H E hr).ps, ?_⟩
  subst ev
  unfold L2.start
  have el : N.length - (V.ref p :: vr).length = N.length - 1 - ds.length := by rw [List.length_cons, rl.length]; omega
  rw [el]
  refine ⟨SV.own c :: (ds.map SV.dat ++ List.replicate (N.length - 1 - ds.length) SV.emp), S, abs_startB le hp np rc rl, ?_⟩
  unfold runB at h
  revert h
  generalize m (.own c :: (ds.map SV.dat ++ List.replicate (N.length - 1 - ds.length) .emp)) = r
  intro h
  have xt : ∀ {σ' : St} {τ' : DS} {H' S' : Hp}, Ext ((V.ref p :: vr).map some ++ List.replicate (N.length - 1 - ds.length) none) (.own c :: (ds.map SV.dat ++ List.replicate (N.length - 1 - ds.length) .emp)) H S σ' τ' H' S' → Xt (fun a => a = p) H S H' S' :=
    fun e => ⟨e.st, fun a o h1 nt h2 no => e.pv a o h1 nt h2 fun z => no (own_startB z), e.al⟩
  have fst : ∀ {σ' : St} {τ' : DS} {c' : Cn} {H' S' : Hp} {rest : DS}, τ' = .own c' :: rest → Abs g K σ' H' τ' S' → Pr (fun i => i == 0) ((V.ref p :: vr).map some ++ List.replicate (N.length - 1 - ds.length) none) σ' → Own σ' τ' p ∧ ∃ o', H' p = some o' ∧ S' p = none ∧ RepC g K S' p o' c' := by
    intro σ' τ' c' H' S' rest e A pr
    subst e
    obtain ⟨a, o', e1, e2, e3, e4⟩ := A.own 0 c' rfl
    have z := pr.2 0 rfl
    rw [e1] at z
    simp at z
    subst z
    exact ⟨⟨0, c', rfl, e1⟩, o', e2, e3, e4⟩
  cases r with
  | bk τ' => exact h.elim
  | ct τ' => exact h.elim
  | err c τ' => exact h.elim
  | stuck => exact h.elim
  | nx τ' =>
    intro σ' H' S' A e pr
    match τ', h, A, e with
    | [], h, _, _ => exact h.elim
    | .emp :: _, h, _, _ => exact h.elim
    | .dat _ :: _, h, _, _ => exact h.elim
    | .own c' :: rest, h, A, e =>
      obtain ⟨_, o', z1, z2, z3⟩ := fst rfl A pr
      exact h .non H' S' o' ⟨A.le, A.tab⟩ (xt e) z1 z2 z3 (.dat .non)
  | rt r τ' =>
    intro σ' v H' S' A e pr x
    match τ', h, A, e, x with
    | [], h, _, _, _ => exact h.elim
    | .emp :: _, h, _, _, _ => exact h.elim
    | .dat _ :: _, h, _, _, _ => exact h.elim
    | .own c' :: rest, h, A, e, x =>
      obtain ⟨ow, o', z1, z2, z3⟩ := fst rfl A pr
      refine h v H' S' o' ⟨A.le, A.tab⟩ (xt e) z1 z2 z3 ?_
      cases x with
      | dat r => exact .dat r
      | fr z hp n no r =>
        refine .fr (z.resolve_left fun q => ?_) hp n r
        have := own_startB q
        subst this
        exact no ow
theorem FnOk.of_eq {k n : Nat} {f : Addr} {fd : FuncData} {ps : List Str} {F G : List D → FR} (h : FnOk P w K mg base (L2N.CX P w) k f fd ps (spP g K n F)) (e : ∀ ds, ds.length = n → G ds ≠ .stuck → F ds = G ds) : FnOk P w K mg base (L2N.CX P w) k f fd ps (spP g K n G) := by
  refine h.imp fun vs H Q E ⟨S, ds, le, rl, hl, z⟩ => ⟨S, ds, le, rl, hl, ?_⟩
  by_cases hs : G ds = .stuck
  · rw [hs] at z; exact z.elim
  · rw [e ds hl hs]; exact z
end
def FR.at (r : FR) (τ : DS) : Res RV := match r with
  | .ok r => .ok r τ
  | .err c => .err c τ
  | .stuck => .stuck
def callF (n : Nat) (F : List D → FR) (ds : List D) (τ : DS) : Res RV := if ds.length = n then (F ds).at τ else .stuck
def mCall (n : Nat) (F : List D → FR) (ma : DS → Res (List RV)) : DS → Res RV := mFast ma (callF n F)
def callB (n : Nat) (F : Cn → List D → FB) (j : Nat) (ds : List D) (τ : DS) : Res RV := match τ[j]? with
  | some (.own c) => if ds.length + 1 = n then (match F c ds with
    | .ok r c' => .ok r (τ.set j (.own c'))
    | .stuck => .stuck) else .stuck
  | _ => .stuck
def mCallB (n : Nat) (F : Cn → List D → FB) (j : Nat) (ma : DS → Res (List RV)) : DS → Res RV := fun τ => match τ[j]? with
  | some (.own _) => mFast ma (callB n F j) τ
  | _ => .stuck
section
variable {X : Cx} {g : Gm} {W : WX} {lv n : Nat} {f : Addr} {fd : FuncData} {ps : List Str} {x y : Str} {p p2 pos : Pos} {e : Expr} {es : List Expr} {ma : DS → Res (List RV)}
theorem Abs.back {K : PySem.W.Frag} {σ : St} {τ : DS} {H S H' S' : Hp} (A : Abs g K σ H τ S) (le : Same S' H' ∧ TabD g.tabs H' S') (x : Xt (fun _ => False) H S H' S') : Abs g K σ H' τ S' ∧ Ext σ τ H S σ τ H' S' := by
  refine ⟨⟨le.1, A.len, fun i d e => ?_, fun i c e => ?_, A.inj, le.2⟩, x.st, fun a o h nt n _ => x.pv a o h nt n id, fun _ h => .inl h, x.al⟩
  · obtain ⟨v, e1, r⟩ := A.dat i d e
    exact ⟨v, e1, r.mono x.st⟩
  · obtain ⟨a, o, e1, e2, n, r⟩ := A.own i c e
    obtain ⟨z1, z2⟩ := x.pv a o e2 r.nt n id
    exact ⟨a, o, e1, z1, z2, r.mono x.st⟩
theorem de_call {F : List D → FR} (G : FnOk X.prog X.w X.K X.mg X.base (L2N.CX X.prog X.w) lv f fd ps (spP g X.K n F)) (tk : L2N.Takes X W) (hr : Room lv X.A) (hg : Gl X x) (hm : X.mg x = some (.ref f)) (hk : PySem.W.keepIn X.K (.ref f) = true) (hb : Binds X.K fd ps [])
    (ha : DA X g W (e :: es) ma) (hdb : (x == ("__debug__" : Str)) = false := by decide) (he : starEach (e :: es) X.env = (false, eval e X.env) :: starEach es X.env := by rfl) (hpl : (backTo pos (starEach es X.env)).any (·.1) = false := by rfl) :
    DE X g W (.Call (.Name x p) (e :: es) [] pos) (mCall n F ma) := by
  refine ⟨PE.imp (pe_callS G hr hg hm hk hb (L2N.passAt tk) ha.pa hdb he hpl) fun σ H Q h => (LE.fast h).mono fun vs H1 ⟨τ, S, ds, A, al, rl, h1⟩ => ?_⟩
  obtain ⟨hl, h2⟩ := fin_if h1
  refine ⟨S, ds, ⟨A.le, A.tab⟩, rl, hl, ?_⟩
  revert h2
  generalize F ds = r
  intro h2
  cases r with
  | stuck => exact h2.elim
  | err c => exact fun H' S' le x => let ⟨A', e'⟩ := A.back le x; h2 H' S' A' e'
  | ok r =>
    intro v H' S' le x rr
    obtain ⟨A', e'⟩ := A.back le x
    refine h2 H' S' A' e' v ?_
    cases rr with
    | dat r => exact .dat r
    | fr h0 hp n r =>
      refine .fr (al _ h0) hp n (fun z => ?_) r
      obtain ⟨o, z⟩ := A.own_some z
      rw [h0] at z; cases z
theorem Abs.backB {K : PySem.W.Frag} {σ : St} {τ : DS} {H S H' S' : Hp} {j : Nat} {q : Addr} {c c' : Cn} {o' : HO} (A : Abs g K σ H τ S) (hj : τ[j]? = some (SV.own c)) (hs : σ[j]? = some (some (.ref q))) (le : Same S' H' ∧ TabD g.tabs H' S') (x : Xt (fun a => a = q) H S H' S') (h1 : H' q = some o') (h2 : S' q = none) (h3 : RepC g K S' q o' c') :
    Abs g K σ H' (τ.set j (.own c')) S' ∧ Ext σ τ H S σ (τ.set j (.own c')) H' S' := by
  have toOld : ∀ {i : Nat} {c1 : Cn}, (τ.set j (SV.own c'))[i]? = some (.own c1) → ∃ c2, τ[i]? = some (.own c2) := fun {i c1} e => by
    rcases set_get e with ⟨z, _⟩ | ⟨_, z⟩
    · subst z; exact ⟨c, hj⟩
    · exact ⟨c1, z⟩
  refine ⟨⟨le.1, by simpa using A.len, fun i d e => ?_, fun i c1 e => ?_, fun i l c1 c2 e1 e2 e3 => ?_, le.2⟩, x.st, fun a o h nt n no => x.pv a o h nt n fun z => ?_, fun a ⟨i, c1, e1, e2⟩ => ?_, x.al⟩
  · rcases set_get e with ⟨_, z⟩ | ⟨_, z⟩
    · cases z
    · obtain ⟨v, e1, r⟩ := A.dat i d z
      exact ⟨v, e1, r.mono x.st⟩
  · rcases set_get e with ⟨z, z2⟩ | ⟨hne, z⟩
    · subst z; cases z2
      exact ⟨q, o', hs, h1, h2, h3⟩
    · obtain ⟨a, o, e1, e2, n, r⟩ := A.own i c1 z
      have ne : ¬ a = q := fun w => by
        subst w
        exact hne (A.inj j i c c1 hj z (hs.trans e1.symm))
      obtain ⟨z1, z2⟩ := x.pv a o e2 r.nt n ne
      exact ⟨a, o, e1, z1, z2, r.mono x.st⟩
  · obtain ⟨c3, z1⟩ := toOld e1
    obtain ⟨c4, z2⟩ := toOld e2
    exact A.inj i l c3 c4 z1 z2 e3
  · exact no (by rw [show a = q from z]; exact ⟨j, c, hj, hs⟩)
  · obtain ⟨c3, z1⟩ := toOld e1
    exact .inl ⟨i, c3, z1, e2⟩
theorem de_callB {F : Cn → List D → FB} (j : Nat) (G : FnOk X.prog X.w X.K X.mg X.base (L2N.CX X.prog X.w) lv f fd ps (spB g X.K n F)) (tk : L2N.Takes X W) (hr : Room lv X.A) (hg : Gl X x) (hm : X.mg x = some (.ref f)) (hk : PySem.W.keepIn X.K (.ref f) = true) (hb : Binds X.K fd ps [])
    (ha : DA X g W es ma) (hN : X.N[j]? = some y := by rfl) (hv : Vis X.env.scope y := by first | exact Or.inl rfl | exact Or.inr (Or.inl rfl) | exact Or.inr (Or.inr rfl)) (hd : (y == ("__debug__" : Str)) = false := by decide) (hcd : (y == ("__classdict__" : Str)) = false := by decide)
    (hdb : (x == ("__debug__" : Str)) = false := by decide) (he : starEach (.Name y p2 :: es) X.env = (false, eval (.Name y p2) X.env) :: starEach es X.env := by rfl) (hpl : (backTo pos (starEach es X.env)).any (·.1) = false := by rfl) :
    DE X g W (.Call (.Name x p) (.Name y p2 :: es) [] pos) (mCallB n F j ma) := by
  refine ⟨PE.imp (pe_callS G hr hg hm hk hb (L2N.passAt tk) (pa_cons (pe_var (i := j) hN hv hd hcd) ha.pa he) hdb he hpl) fun σ H Q h => ?_⟩
  obtain ⟨τ, S, A, h⟩ := h
  unfold mCallB at h
  cases q0 : τ[j]? with
  | none => rw [q0] at h; exact h.elim
  | some sv =>
    rw [q0] at h
    cases sv with
    | emp => exact h.elim
    | dat d => exact h.elim
    | own c0 =>
      obtain ⟨a, o, hv, _⟩ := A.own j c0 q0
      have h' := LA.fast h
      refine ⟨_, hv, τ, S, A, h'.mono fun τ1 rs H1 S1 A1 e1 q vs rvs => ?_⟩
      obtain ⟨τ2, S2, ds, A2, e2, rl, h2⟩ := q vs rvs
      unfold callB at h2
      cases q : τ2[j]? with
      | none => rw [q] at h2; exact h2.elim
      | some sv =>
        rw [q] at h2
        cases sv with
        | emp => exact h2.elim
        | dat d => exact h2.elim
        | own c =>
          dsimp only at h2
          obtain ⟨hl, h3⟩ := fin_if h2
          obtain ⟨a, o, z1, z2, z3, z4⟩ := A2.own j c q
          rw [hv] at z1; cases z1
          refine ⟨S2, _, o, c, vs, ds, rfl, ⟨A2.le, A2.tab⟩, z2, z3, z4, rl, hl, ?_⟩
          revert h3
          generalize F c ds = r
          intro h3
          cases r with
          | stuck => exact h3.elim
          | ok r c' =>
            intro w H' S' o' le x y1 y2 y3 rr
            obtain ⟨A3, e3⟩ := A2.backB q hv le x y1 y2 y3
            refine h3 H' S' A3 e3 w ?_
            cases rr with
            | dat r => exact .dat r
            | fr h0 hp n r =>
              refine .fr (e2.al _ h0) hp n (fun z => ?_) r
              obtain ⟨i, c1, w1, w2⟩ := z
              rcases set_get w1 with ⟨w3, _⟩ | ⟨_, w3⟩
              · subst w3
                rw [hv] at w2
                cases w2
                rw [z2] at h0; cases h0
              · obtain ⟨o, w4⟩ := A2.own_some ⟨i, c1, w3, w2⟩
                rw [h0] at w4; cases w4
def mRaise (c : Nat) : DS → SRes := fun τ => .err c τ
theorem ds_raise {k : Nat → Bool} {c : Nat} {m : Str} {i : Nat} {B newId initId : String} {bmB : List Value} (hc : X.calm = true) (tk : L2N.Takes X W) (Fb : ExcBaseFacts B newId initId bmB) (q : PySem.W.excIn X.K (g c) bmB newId = true) (gC : X.mg x = some (.ref (g c))) (kC : PySem.W.keepIn X.K (.ref (g c)) = true) (r : Raises X (.ref (g c))) (hg : Gl X x)
    {pos3 : Pos} (hdb : (x == ("__debug__" : Str)) = false := by decide) : DSt X g W k (.Raise (some (.Call (.Name x p) [.Constant (.str m) i p2] [] pos)) none pos3) (mRaise c) :=
  ⟨PS.imp (L2N.ps_raise hc tk (L2N.pmk_own Fb q gC kC r hg hdb)) fun D σ H ⟨τ, S, A, h⟩ => h σ H S A .refl .refl⟩
end
end DL
namespace DL
open PySem PySem.Spec PyProof.Rows L2
def wipeT (τ : DS) : List Nat → DS
  | [] => τ
  | v :: vs => (wipeT τ vs).set v .emp
def unwipe (τ τ' : DS) : List Nat → DS
  | [] => τ'
  | v :: vs => match τ[v]? with
    | some sv => (unwipe τ τ' vs).set v sv
    | none => unwipe τ τ' vs
theorem wipeT_length (τ : DS) : ∀ vs, (wipeT τ vs).length = τ.length
  | [] => rfl
  | v :: vs => by unfold wipeT; rw [List.length_set, wipeT_length τ vs]
theorem wipeT_get {τ : DS} {i : Nat} {x : SV} : ∀ {vs : List Nat}, (wipeT τ vs)[i]? = some x → x ≠ .emp → τ[i]? = some x ∧ i ∉ vs
  | [], h, _ => ⟨h, by simp⟩
  | v :: vs, h, hx => by
    unfold wipeT at h
    by_cases hi : v = i
    · subst hi
      by_cases hl : v < (wipeT τ vs).length
      · rw [List.getElem?_set_self hl] at h; cases h; exact absurd rfl hx
      · rw [List.getElem?_eq_none (by simpa using hl)] at h; cases h
    · rw [List.getElem?_set_ne hi] at h
      obtain ⟨h1, h2⟩ := wipeT_get h hx
      exact ⟨h1, by simp only [List.mem_cons, not_or]; exact ⟨fun e => hi e.symm, h2⟩⟩
theorem wipe_out {σ : St} {i : Nat} : ∀ {vs : List Nat}, i ∉ vs → (wipe σ vs)[i]? = σ[i]?
  | [], _ => rfl
  | v :: vs, h => by
    simp only [List.mem_cons, not_or] at h
    unfold wipe
    rw [List.getElem?_set_ne (fun e => h.1 e.symm)]
    exact wipe_out h.2
theorem wipe_in {σ : St} {i : Nat} : ∀ {vs : List Nat}, i ∈ vs → i < σ.length → (wipe σ vs)[i]? = some none
  | v :: vs, h, hl => by
    unfold wipe
    by_cases hi : v = i
    · subst hi
      rw [List.getElem?_set_self (by rw [wipe_length]; exact hl)]
    · rw [List.getElem?_set_ne hi]
      refine wipe_in ?_ hl
      rcases List.mem_cons.mp h with e | h
      · exact absurd e.symm hi
      · exact h
theorem unwipe_length {τ τ' : DS} : ∀ vs, (unwipe τ τ' vs).length = τ'.length
  | [] => rfl
  | v :: vs => by
    unfold unwipe
    split
    · rw [List.length_set, unwipe_length vs]
    · exact unwipe_length vs
theorem unwipe_out {τ τ' : DS} {i : Nat} : ∀ {vs : List Nat}, i ∉ vs → (unwipe τ τ' vs)[i]? = τ'[i]?
  | [], _ => rfl
  | v :: vs, h => by
    simp only [List.mem_cons, not_or] at h
    unfold unwipe
    split
    · rw [List.getElem?_set_ne (fun e => h.1 e.symm)]
      exact unwipe_out h.2
    · exact unwipe_out h.2
theorem unwipe_in {τ τ' : DS} {i : Nat} (hl : τ.length = τ'.length) : ∀ {vs : List Nat}, i ∈ vs → (unwipe τ τ' vs)[i]? = τ[i]?
  | v :: vs, h => by
    unfold unwipe
    by_cases hi : v = i
    · subst hi
      cases q : τ[v]? with
      | none =>
        have h1 : τ.length ≤ v := List.getElem?_eq_none_iff.mp q
        dsimp only
        rw [List.getElem?_eq_none]
        rw [unwipe_length]; omega
      | some sv =>
        have h1 : v < τ.length := (List.getElem?_eq_some_iff.mp q).1
        dsimp only
        rw [List.getElem?_set_self (by rw [unwipe_length]; omega)]
    · have hm : i ∈ vs := by
        rcases List.mem_cons.mp h with e | h
        · exact absurd e.symm hi
        · exact h
      have ih := unwipe_in (τ := τ) (τ' := τ') hl hm
      split
      · rw [List.getElem?_set_ne hi]; exact ih
      · exact ih
section
variable {g : Gm} {K : PySem.W.Frag} {W : WX} {α β : Type} {σ σ1 σ2 : St} {τ τ1 τ2 : DS} {H0 H S H1 S1 H' S' : Hp} {v : V} {vs : List Nat}
theorem own_wipe {a : Addr} (h : Own (wipe σ vs) (wipeT τ vs) a) : Own σ τ a ∧ ∃ i c, i ∉ vs ∧ τ[i]? = some (SV.own c) ∧ σ[i]? = some (some (.ref a)) := by
  obtain ⟨i, c, e1, e2⟩ := h
  obtain ⟨h1, h2⟩ := wipeT_get e1 (by simp)
  rw [wipe_out h2] at e2
  exact ⟨⟨i, c, h1, e2⟩, i, c, h2, h1, e2⟩
theorem Abs.wipe (A : Abs g K σ H τ S) (vs : List Nat) : Abs g K (wipe σ vs) H (wipeT τ vs) S where
  le := A.le
  tab := A.tab
  len := by rw [wipe_length, wipeT_length]; exact A.len
  dat := fun i d e => by
    obtain ⟨h1, h2⟩ := wipeT_get e (by simp)
    rw [wipe_out h2]; exact A.dat i d h1
  own := fun i c e => by
    obtain ⟨h1, h2⟩ := wipeT_get e (by simp)
    rw [wipe_out h2]; exact A.own i c h1
  inj := fun i j c c' e1 e2 e3 => by
    obtain ⟨h1, h2⟩ := wipeT_get e1 (by simp)
    obtain ⟨h3, h4⟩ := wipeT_get e2 (by simp)
    rw [wipe_out h2, wipe_out h4] at e3
    exact A.inj i j c c' h1 h3 e3
theorem Abs.unwipe (A : Abs g K σ H τ S) (A2 : Abs g K σ2 H' τ2 S') (e : Ext (L2.wipe σ vs) (wipeT τ vs) H S σ2 τ2 H' S') (hw : L2.wipe σ2 vs = L2.wipe σ vs) :
    Abs g K σ H' (DL.unwipe τ τ2 vs) S' ∧ Ext σ τ H S σ (DL.unwipe τ τ2 vs) H' S' := by
  have hσ : ∀ j, j ∉ vs → σ2[j]? = σ[j]? := fun j hj => by
    rw [← wipe_out (σ := σ2) hj, hw, wipe_out hj]
  have hl2 : σ2.length = σ.length := by
    have := congrArg List.length hw
    rw [wipe_length, wipe_length] at this
    exact this
  have hl : τ.length = τ2.length := by rw [← A.len, ← A2.len, hl2]
  have ghost : ∀ {j : Nat} {c : Cn} {a : Addr}, j ∈ vs → τ[j]? = some (.own c) → σ[j]? = some (some (.ref a)) → ¬ Own (L2.wipe σ vs) (wipeT τ vs) a := fun {j c a} hj h1 h2 z => by
    obtain ⟨_, i, c', hi, z1, z2⟩ := own_wipe z
    have := A.inj j i c c' h1 z1 (h2.trans z2.symm)
    subst this
    exact hi hj
  refine ⟨⟨A2.le, by rw [unwipe_length, ← hl]; exact A.len, fun j d q => ?_, fun j c q => ?_, fun i j c c' q1 q2 q3 => ?_, A2.tab⟩, e.st, fun a o h nt n no => e.pv a o h nt n fun z => no (own_wipe z).1, fun a ⟨j, c, q1, q2⟩ => ?_, e.al⟩
  · by_cases hj : j ∈ vs
    · rw [unwipe_in hl hj] at q
      obtain ⟨w, e1, r⟩ := A.dat j d q
      exact ⟨w, e1, r.mono e.st⟩
    · rw [unwipe_out hj] at q
      obtain ⟨w, e1, r⟩ := A2.dat j d q
      rw [hσ j hj] at e1
      exact ⟨w, e1, r⟩
  · by_cases hj : j ∈ vs
    · rw [unwipe_in hl hj] at q
      obtain ⟨a, o, e1, e2, n, r⟩ := A.own j c q
      obtain ⟨z1, z2⟩ := e.pv a o e2 r.nt n (ghost hj q e1)
      exact ⟨a, o, e1, z1, z2, r.mono e.st⟩
    · rw [unwipe_out hj] at q
      obtain ⟨a, o, e1, e2⟩ := A2.own j c q
      rw [hσ j hj] at e1
      exact ⟨a, o, e1, e2⟩
  · have mix : ∀ {i j : Nat} {c c' : Cn}, i ∈ vs → j ∉ vs → τ[i]? = some (.own c) → τ2[j]? = some (.own c') → σ[i]? = σ[j]? → False := by
      intro i j c c' hi hj z1 z2 z3
      obtain ⟨a, o, e1, e2, _⟩ := A.own i c z1
      rw [e1] at z3
      rcases e.ow a ⟨j, c', z2, (hσ j hj).trans z3.symm⟩ with z | z
      · exact ghost hi z1 e1 z
      · rw [e2] at z; cases z
    by_cases hi : i ∈ vs <;> by_cases hj : j ∈ vs
    · rw [unwipe_in hl hi] at q1
      rw [unwipe_in hl hj] at q2
      exact A.inj i j c c' q1 q2 q3
    · rw [unwipe_in hl hi] at q1
      rw [unwipe_out hj] at q2
      exact (mix hi hj q1 q2 q3).elim
    · rw [unwipe_out hi] at q1
      rw [unwipe_in hl hj] at q2
      exact (mix hj hi q2 q1 q3.symm).elim
    · rw [unwipe_out hi] at q1
      rw [unwipe_out hj] at q2
      exact A2.inj i j c c' q1 q2 (by rw [hσ i hi, hσ j hj]; exact q3)
  · by_cases hj : j ∈ vs
    · rw [unwipe_in hl hj] at q1
      exact .inl ⟨j, c, q1, q2⟩
    · rw [unwipe_out hj] at q1
      rcases e.ow a ⟨j, c, q1, (hσ j hj).trans q2⟩ with z | z
      · exact .inl (own_wipe z).1
      · exact .inr z
theorem Ext.wipe (A : Abs g K σ H τ S) : Ext σ τ H S (L2.wipe σ vs) (wipeT τ vs) H S := ⟨Same.refl _, fun _ _ h _ n _ => ⟨h, n⟩, fun _ h => .inl (own_wipe h).1, fun _ h => h⟩
theorem Abs.poke (A : Abs g K σ H τ S) {p : Addr} {o o0 : HO} (hq : H p = some o0) (nt : NT o0) (n : S p = none) (no : ¬ Own σ τ p) : Abs g K σ (upd H p o) τ S where
  tab := A.tab.upd hq nt
  le := fun b x e => by
    by_cases hb : b = p
    · subst hb; rw [n] at e; cases e
    · rw [upd_ne hb]; exact A.le _ _ e
  len := A.len
  dat := A.dat
  own := fun i c e => by
    obtain ⟨a, o', e1, h1, n1, r⟩ := A.own i c e
    have ne : a ≠ p := fun z => no (z ▸ ⟨i, c, e, e1⟩)
    exact ⟨a, o', e1, by rw [upd_ne ne]; exact h1, n1, r⟩
  inj := A.inj
theorem Ext.poke {σ0 : St} {τ0 : DS} {p : Addr} {o : HO} (e : Ext σ0 τ0 H0 S1 σ τ H S) (h0 : H0 p = none) : Ext σ0 τ0 H0 S1 σ τ (upd H p o) S where
  st := e.st
  pv := fun a x h nt n no => by
    obtain ⟨z1, z2⟩ := e.pv a x h nt n no
    exact ⟨by rw [upd_ne (ne_of_none h h0)]; exact z1, z2⟩
  ow := e.ow
  al := fun a z => by
    by_cases hb : a = p
    · rw [hb]; exact h0
    · rw [upd_ne hb] at z; exact e.al a z
theorem force_ok {r : RV} {d : D} {τ' : DS} (A : Abs g K σ H τ S) (e : Ext σ τ1 H1 S1 σ τ H S) (rv : RepW g K σ τ H1 H S v r) (h : force r τ = .ok d τ') : ∃ S', Abs g K σ H τ' S' ∧ Ext σ τ1 H1 S1 σ τ' H S' ∧ Rep g K S' v d ∧ Same S S' := by
  have h0 : FinP g K (fun _ _ _ _ => False) σ τ1 H1 S1 ((force r τ).bind fun d τ => .ok d τ) fun τ2 d2 _ _ => Res.ok d τ' = .ok d2 τ2 := by
    rw [h]
    exact fun _ _ _ _ => rfl
  obtain ⟨τ2, S2, d2, A2, e2, r2, sm, _, h2⟩ := FinP.force A e rv h0
  have z := h2 H S2 A2 e2
  cases z
  exact ⟨S2, A2, e2, r2, sm⟩
def Res.calm (r : Res α) : Res α := match r with
  | .err _ _ => .stuck
  | r => r
abbrev WF : WX := fun _ _ _ _ => False
def compL (vs : List Nat) (mt : D → DS → Option DS) (mc : DS → Res Bool) (me : DS → Res RV) : List D → List D → DS → Res (List D)
  | [], acc, τ => .ok acc τ
  | x :: xs, acc, τ => match mt x (wipeT τ vs) with
    | none => .stuck
    | some τ1 => match mc τ1 with
      | .ok true τ2 => match ((me τ2).bind force) with
        | .ok d τ3 => if acc.length < bigN then compL vs mt mc me xs (acc ++ [d]) (unwipe τ τ3 vs) else .stuck
        | _ => .stuck
      | .ok false τ2 => compL vs mt mc me xs acc (unwipe τ τ2 vs)
      | _ => .stuck
def mLc (mi : DS → Res (List D)) (vs : List Nat) (mt : D → DS → Option DS) (mc : DS → Res Bool) (me : DS → Res RV) : DS → Res RV := fun τ => (mi τ).bind fun xs τ1 => (compL vs mt mc me xs [] τ1).bind fun ds τ2 => Res.ok (RV.fr (Cn.lst ds)) τ2
theorem lc_of {mi : DS → Res (List D)} {mt : D → DS → Option DS} {mc : DS → Res Bool} {me : DS → Res RV} {Q : VK} (h : LE g K W (mLc mi vs mt mc me) σ H Q) :
    tLc (LI g K W mi) (LG g K (fun i => !(vs.contains i)) mt) (LT g K WF mc) (LE g K WF me) vs σ H Q := by
  obtain ⟨τ, S, A, h⟩ := h
  refine ⟨τ, S, A, (FinP.bind0 h).mono fun τ1 xs H1 S1 A1 e1 h1 J hJ D hD => ?_⟩
  have hD0 : H D = none := e1.al D hD
  refine ⟨fun i m H2 => m = xs.length - i ∧ i ≤ xs.length ∧ ∃ τ2 S2 acc accV, Abs g K σ H2 τ2 S2 ∧ Ext σ τ H S σ τ2 H2 S2 ∧ Same S1 S2 ∧ H2 D = some (.lst accV) ∧ S2 D = none ∧ ¬ Own σ τ2 D ∧ RepL g K S2 accV acc ∧
      FinP g K W σ τ H S ((compL vs mt mc me (xs.drop i) acc τ2).bind fun ds τ2 => Res.ok (RV.fr (Cn.lst ds)) τ2) fun τ' r H' S' => ∀ v, RepV g K σ τ' H H' S' v r → Q v H',
    ⟨xs.length, by omega, Nat.zero_le _, τ1, S1, [], [], A1.priv hD _, e1.trans (A1.ext_priv hD _), Same.refl _, upd_same, A1.sn hD, Own.not_new A1 hD, .nil, h1⟩, ?_⟩
  rintro i m H2 ⟨rfl, hi, τ2, S2, acc, accV, A2, e2, sm, hD2, nD, noD, rl, h2⟩
  obtain ⟨go, stop⟩ := hJ i H2 S2 sm A2.le
  by_cases hlt : i < xs.length
  · obtain ⟨g1, g2⟩ := go xs[i] (List.getElem?_eq_getElem hlt)
    rw [List.drop_eq_getElem_cons hlt] at h2
    unfold compL at h2
    refine .inr ⟨g1, fun H3 => ∃ τ3 S3 acc accV, Abs g K σ H3 τ3 S3 ∧ Ext σ τ H S σ τ3 H3 S3 ∧ Same S1 S3 ∧ H3 D = some (.lst accV) ∧ S3 D = none ∧ ¬ Own σ τ3 D ∧ RepL g K S3 accV acc ∧
      FinP g K W σ τ H S ((compL vs mt mc me (xs.drop (i + 1)) acc τ3).bind fun ds τ2 => Res.ok (RV.fr (Cn.lst ds)) τ2) fun τ' r H' S' => ∀ v, RepV g K σ τ' H H' S' v r → Q v H',
      fun H3 ⟨τ3, S3, q⟩ => ⟨xs.length - (i + 1), by omega, rfl, hlt, τ3, S3, q⟩, fun x H3 y => ?_⟩
    obtain ⟨S3, s1, s2, s3, rx, s4⟩ := g2 x H3 y
    obtain ⟨A3, e3⟩ := A2.step s1 s2 s3 s4
    have hD3 := s3 _ _ hD2
    have nD3 : S3 D = none := s4 D nD (by rw [hD2]; simp)
    have A4 := A3.wipe vs
    refine ⟨wipeT τ2 vs, S3, xs[i], A4, rx, ?_⟩
    cases q : mt xs[i] (wipeT τ2 vs) with
    | none => rw [q] at h2; exact h2.elim
    | some τ5 =>
      rw [q] at h2
      dsimp only at h2
      intro σ5 A5 e5 p5
      have hw : wipe σ5 vs = wipe σ vs := by
        refine List.ext_getElem? fun j => ?_
        have hl : σ5.length = σ.length := by rw [p5.1, wipe_length]
        by_cases hj : j ∈ vs
        · by_cases hlj : j < σ.length
          · rw [wipe_in hj (by omega), wipe_in hj hlj]
          · rw [List.getElem?_eq_none (by rw [wipe_length]; omega), List.getElem?_eq_none (by rw [wipe_length]; omega)]
        · rw [wipe_out hj, p5.2 j (by simp [hj])]
      refine ⟨hw, τ5, S3, A5, ?_⟩
      cases q2 : mc τ5 with
      | err c τ6 => rw [q2] at h2; exact h2.elim
      | stuck => rw [q2] at h2; exact h2.elim
      | ok b τ6 =>
        rw [q2] at h2
        intro H6 S6 A6 e6
        have f6 : Ext (wipe σ vs) (wipeT τ2 vs) H3 S3 σ5 τ6 H6 S6 := e5.trans e6
        have ghost : ¬ Own (wipe σ vs) (wipeT τ2 vs) D := fun z => noD (own_wipe z).1
        cases b with
        | false =>
          refine iteF ?_
          obtain ⟨A7, e7⟩ := A3.unwipe A6 f6 hw
          obtain ⟨z1, z2⟩ := f6.pv D _ hD3 (fun _ z => by cases z) nD3 ghost
          have no7 : ¬ Own σ (unwipe τ2 τ6 vs) D := fun z => by
            rcases e7.ow D z with z | z
            · exact noD z
            · rw [hD3] at z; cases z
          exact ⟨_, S6, acc, accV, A7, (e2.trans e3).trans e7, (sm.trans s1).trans e7.st, z1, z2, no7, rl.mono (s1.trans e7.st), h2⟩
        | true =>
          refine iteT ⟨τ6, S6, A6, ?_⟩
          dsimp only at h2
          cases q3 : me τ6 with
          | err c τ7 => rw [q3] at h2; exact h2.elim
          | stuck => rw [q3] at h2; exact h2.elim
          | ok r τ7 =>
            rw [q3] at h2
            intro H7 S7 A7 e7 y rv
            simp only [Res.bind] at h2
            cases q4 : force r τ7 with
            | err c τ8 => rw [q4] at h2; exact h2.elim
            | stuck => rw [q4] at h2; exact h2.elim
            | ok d τ8 =>
              rw [q4] at h2
              dsimp only at h2
              obtain ⟨S8, A8, e8, rd, sm8⟩ := force_ok A7 e7 (.inl rv) q4
              have f8 : Ext (wipe σ vs) (wipeT τ2 vs) H3 S3 σ5 τ8 H7 S8 := f6.trans e8
              obtain ⟨A9, e9⟩ := A3.unwipe A8 f8 hw
              obtain ⟨z1, z2⟩ := f8.pv D _ hD3 (fun _ z => by cases z) nD3 ghost
              have no9 : ¬ Own σ (unwipe τ2 τ8 vs) D := fun z => by
                rcases e9.ow D z with z | z
                · exact noD z
                · rw [hD3] at z; cases z
              by_cases hlen : acc.length < bigN
              · rw [if_pos hlen] at h2
                refine ⟨accV, z1, by rw [rl.length]; exact Nat.lt_of_lt_of_le hlen bigN_le, ?_⟩
                exact ⟨_, S8, acc ++ [d], accV ++ [y], A9.poke z1 (fun _ z => by cases z) z2 no9, ((e2.trans e3).trans e9).poke hD0, (sm.trans s1).trans e9.st, upd_same, z2, no9, (rl.mono (s1.trans e9.st)).append (.cons rd .nil), h2⟩
              · rw [if_neg hlen] at h2; exact h2.elim
  · have e : i = xs.length := by omega
    subst e
    rw [List.drop_length] at h2
    unfold compL at h2
    exact .inl ⟨stop (Nat.le_refl _), FinP.at h2 A2 e2 _ (.fr hD0 hD2 nD noD (.lst rl))⟩
end
end DL
namespace DL
open PySem PySem.Spec PyProof.Rows L2
section
variable {X : Cx} {g : Gm} {W : WX} {k : Nat → Bool} {elt tg iter : Expr} {ifs : List Expr} {scope : Scope} {own : List (Str × Nat)} {mi : DS → Res (List D)} {mt : D → DS → Option DS} {mc : DS → Res Bool} {me : DS → Res RV} {pos : Pos}
structure DTs (X : Cx) (g : Gm) (W : WX) (ifs : List Expr) (m : DS → Res Bool) : Prop where
  pts : PTs X ifs (LT g X.K W m)
theorem PTs.imp {X : Cx} {e : List Expr} {t t' : TT} (h : PTs X e t) (i : ∀ σ H Q, t' σ H Q → t σ H Q) : PTs X e t' := ⟨fun pins s σ H Q I q => h.run pins s σ H Q I (i σ H Q q)⟩
def mYes : DS → Res Bool := fun τ => .ok true τ
theorem dts_nil : DTs X g W [] mYes := ⟨PTs.imp pts_nil fun _ _ _ h => LT.ok h⟩
theorem dts_one {c : Expr} (h : DT X g W c mc) : DTs X g W [c] mc := ⟨pts_one h.pt⟩
abbrev outs (own : List (Str × Nat)) : Nat → Bool := fun i => !((own.map (·.2)).contains i)
theorem de_lc (hc : X.calm = true) (hN : X.N.Nodup) (hi : DI X g W tg iter mi) (ok : BlkOk X.N X.env.scope scope own)
    (hg : ∀ (s : Shared) (H : Hp) (C : Addr) (cl : List (Str × Addr)) (fp : List Addr), DG (X.blk s H scope (compEnvC scope cl C X.env) fp) g (outs own) tg mt) (ht : ∀ (s : Shared) (H : Hp) (C : Addr) (cl : List (Str × Addr)) (fp : List Addr), DTs (X.blk s H scope (compEnvC scope cl C X.env) fp) g WF ifs mc)
    (he : ∀ (s : Shared) (H : Hp) (C : Addr) (cl : List (Str × Addr)) (fp : List Addr), DE (X.blk s H scope (compEnvC scope cl C X.env) fp) g WF elt me) (hs : ∀ x, foldedSetIterable iter X.env x = pure x := by intro _; rfl) :
    DE X g W (.ListComp elt [⟨tg, iter, ifs, 0⟩] scope pos) (mLc mi (own.map (·.2)) mt mc me) :=
  ⟨PE.imp (pe_lc hc hN hi.pi ok (fun s H C cl fp => (hg s H C cl fp).pg) (fun s H C cl fp => (ht s H C cl fp).pts) (fun s H C cl fp => (he s H C cl fp).pe) hs) fun _ _ _ h => lc_of h⟩
theorem ds_setLc (i : Nat) {y : Str} {py spos : Pos} (hc : X.calm = true) (hN : X.N.Nodup) (hi : DI X g W tg iter mi) (ok : BlkOk X.N X.env.scope scope own)
    (hg : ∀ (s : Shared) (H : Hp) (C : Addr) (cl : List (Str × Addr)) (fp : List Addr), DG (X.blk s H scope (compEnvC scope cl C X.env) fp) g (outs own) tg mt) (ht : ∀ (s : Shared) (H : Hp) (C : Addr) (cl : List (Str × Addr)) (fp : List Addr), DTs (X.blk s H scope (compEnvC scope cl C X.env) fp) g WF ifs mc)
    (he : ∀ (s : Shared) (H : Hp) (C : Addr) (cl : List (Str × Addr)) (fp : List Addr), DE (X.blk s H scope (compEnvC scope cl C X.env) fp) g WF elt me) (hk : k i = false := by rfl) (hy : X.N[i]? = some y := by rfl) (hyl : X.env.scope.names.lookup y = some .local := by rfl)
    (hsw : swapsWith (.ListComp elt [⟨tg, iter, ifs, 0⟩] scope pos) (some (.Name y py)) spos.line X.env = pure true := by exact sw_true rfl rfl rfl (by decide +kernel)) (hs : ∀ x, foldedSetIterable iter X.env x = pure x := by intro _; rfl) :
    DSt X g W k (.Assign [.Name y py] (.ListComp elt [⟨tg, iter, ifs, 0⟩] scope pos) spos) (mSet i (mLc mi (own.map (·.2)) mt mc me)) := by
  refine ⟨PS.imp (ps_setLc hc hN hy hyl hsw hi.pi ok (fun s H C cl fp => (hg s H C cl fp).pg) (fun s H C cl fp => (ht s H C cl fp).pts) (fun s H C cl fp => (he s H C cl fp).pe) hs) fun D σ H ⟨τ, S, A, h⟩ => lc_of ⟨τ, S, A, ?_⟩⟩
  revert h
  unfold mSet
  generalize mLc mi (own.map (·.2)) mt mc me τ = r
  intro h
  cases r with
  | stuck => exact h
  | err c τ1 => exact fun H1 S1 A1 e1 => h _ H1 S1 A1 e1 .refl
  | ok r τ1 => exact fun H1 S1 A1 e1 v rv => put_ok hk A1 e1 rv h
end
def addD : D → D → Option RV
  | .int i, .int j => some (.dat (.int (i + j)))
  | .str a, .str b => if a.length + b.length ≤ bigN then some (.dat (.str (a ++ b))) else none
  | .lst a, .lst b => if a.length + b.length ≤ bigN then some (.fr (.lst (a ++ b))) else none
  | .tup a, .tup b => if a.length + b.length ≤ bigN then some (.dat (.tup (a ++ b))) else none
  | _, _ => none
def subD : D → D → Option RV
  | .int i, .int j => some (.dat (.int (i - j)))
  | _, _ => none
instance {i j : Int} : Decidable (CMul i j) := by unfold CMul; infer_instance
def mulD : D → D → Option RV
  | .int i, .int j => if CMul i j then some (.dat (.int (i * j))) else none
  | .lst a, .int k => if -1000000 ≤ k ∧ k ≤ 1000000 ∧ a.length * k.toNat ≤ bigN then some (.fr (.lst (List.replicate k.toNat a).flatten)) else none
  | _, _ => none
def fdivD : D → D → Option RV
  | .int i, .int j => if j ≠ 0 ∧ j.natAbs < 1073741824 then some (.dat (.int (i.fdiv j))) else if 0 < j ∧ j < 2 ^ 250 then some (.dat (.int (i.fdiv j))) else none
  | _, _ => none
def modD : D → D → Option RV
  | .int i, .int j => if j ≠ 0 then some (.dat (.int (i.fmod j))) else none
  | _, _ => none
def powD : D → D → Option RV
  | .int i, .int j => if 0 ≤ j ∧ j ≤ 1000000 ∧ i.natAbs < 2 ^ 64 then some (.dat (.int (i ^ j.toNat))) else none
  | _, _ => none
def negD : D → Option RV
  | .int i => some (.dat (.int (-i)))
  | _ => none
section
variable {X : Cx} {g : Gm}
theorem RepL.repl {K : PySem.W.Frag} {S : Hp} {vs : List V} {ds : List D} (r : RepL g K S vs ds) : ∀ n : Nat, RepL g K S (List.replicate n vs).flatten (List.replicate n ds).flatten
  | 0 => .nil
  | n + 1 => by
    rw [List.replicate_succ, List.replicate_succ, List.flatten_cons, List.flatten_cons]
    exact r.append (RepL.repl r n)
theorem EndV.if_ {c : Prop} [Decidable c] {K : PySem.W.Frag} {σ : St} {τ : DS} {H S : Hp} {o : Option RV} {Q : VK} (h : EndV g K σ τ H S (if c then o else none) Q) : c ∧ EndV g K σ τ H S o Q := by
  by_cases hc : c
  · rw [if_pos hc] at h; exact ⟨hc, h⟩
  · rw [if_neg hc] at h; exact h.elim
theorem opD_add : OpD X g (binaryOp .Add) addD := by
  intro pins s σ H τ S x y v u dx dy Q I rx ry A sx sy h
  unfold addD at h
  split at h
  · obtain rfl := sx.int
    obtain rfl := sy.int
    exact op_add pins s σ H _ _ v u Q I rx ry ⟨_, _, rfl, rfl, h.here A (.int _)⟩
  · obtain rfl := sx.str
    obtain rfl := sy.str
    obtain ⟨hl, h⟩ := h.if_
    exact op_add_str pins s σ H _ _ v u Q I rx ry ⟨_, _, rfl, rfl, Nat.le_trans hl bigN_le, h.here A (.str _)⟩
  · obtain ⟨a, va, rfl, ha, ra⟩ := sx.lst A.le
    obtain ⟨b, vb, rfl, hb, rb⟩ := sy.lst A.le
    obtain ⟨hl, h⟩ := h.if_
    exact op_cat pins s σ H _ _ v u Q I rx ry ⟨_, _, _, _, rfl, rfl, ha, hb, by rw [ra.length, rb.length]; exact Nat.le_trans hl bigN_le, h.lst A (ra.append rb)⟩
  · rename_i da db
    obtain ⟨a, va, rfl, ha, ra⟩ := sx.tup A.le
    obtain ⟨b, vb, rfl, hb, rb⟩ := sy.tup A.le
    obtain ⟨hl, h⟩ := h.if_
    refine op_catA pins s σ H _ _ v u Q I rx ry ⟨_, _, _, _, rfl, rfl, ha, hb, by rw [ra.length, rb.length]; exact Nat.le_trans hl bigN_le, fun z => ?_, fun _ z => ?_, fun _ _ => h.tup A (ra.append rb)⟩
    · subst z
      cases ra
      generalize hd : D.tup db = d at sy
      cases sy with
      | rep r => subst hd; exact h.here A r
      | own h r => cases r <;> cases hd
    · subst z
      cases rb
      rw [List.append_nil] at h
      generalize hd : D.tup da = d at sx
      cases sx with
      | rep r => subst hd; exact h.here A r
      | own h r => cases r <;> cases hd
  · exact h.elim
theorem opD_sub : OpD X g (binaryOp .Sub) subD := by
  intro pins s σ H τ S x y v u dx dy Q I rx ry A sx sy h
  unfold subD at h
  split at h
  · obtain rfl := sx.int
    obtain rfl := sy.int
    exact op_sub pins s σ H _ _ v u Q I rx ry ⟨_, _, rfl, rfl, h.here A (.int _)⟩
  · exact h.elim
theorem opD_mul : OpD X g (binaryOp .Mult) mulD := by
  intro pins s σ H τ S x y v u dx dy Q I rx ry A sx sy h
  unfold mulD at h
  split at h
  · obtain rfl := sx.int
    obtain rfl := sy.int
    obtain ⟨hl, h⟩ := h.if_
    exact op_mul pins s σ H _ _ v u Q I rx ry ⟨_, _, rfl, rfl, hl, h.here A (.int _)⟩
  · obtain ⟨a, va, rfl, ha, ra⟩ := sx.lst A.le
    obtain rfl := sy.int
    obtain ⟨⟨h1, h2, hl⟩, h⟩ := h.if_
    exact op_rep pins s σ H _ _ v u Q I rx ry ⟨_, _, _, rfl, rfl, ha, by omega, by omega, by rw [ra.length]; exact Nat.le_trans hl bigN_le, h.lst A (ra.repl _)⟩
  · exact h.elim
theorem opD_fdiv : OpD X g (binaryOp .FloorDiv) fdivD := by
  intro pins s σ H τ S x y v u dx dy Q I rx ry A sx sy h
  unfold fdivD at h
  split at h
  · rename_i i j
    obtain rfl := sx.int
    obtain rfl := sy.int
    by_cases hc : j ≠ 0 ∧ j.natAbs < 1073741824
    · rw [if_pos hc] at h
      exact op_fdivN pins s σ H _ _ v u Q I rx ry ⟨_, _, rfl, rfl, hc, h.here A (.int _)⟩
    · rw [if_neg hc] at h
      obtain ⟨⟨h1, h2⟩, h⟩ := h.if_
      refine op_fdivW pins s σ H _ _ v u Q I rx ry ⟨_, _, rfl, rfl, wide_div (b := 250) h1 ?_ (by decide) (by decide), ?_⟩
      · have e : (2 : Int) ^ 250 = ((2 ^ 250 : Nat) : Int) := by rw [Int.natCast_pow]; rfl
        rw [e] at h2
        omega
      · show Q (.int (i / j)) H
        rw [← Int.fdiv_eq_ediv_of_nonneg i (Int.le_of_lt h1)]
        exact h.here A (.int _)
  · exact h.elim
theorem opD_mod : OpD X g (binaryOp .Mod) modD := by
  intro pins s σ H τ S x y v u dx dy Q I rx ry A sx sy h
  unfold modD at h
  split at h
  · obtain rfl := sx.int
    obtain rfl := sy.int
    obtain ⟨hl, h⟩ := h.if_
    exact op_modN pins s σ H _ _ v u Q I rx ry ⟨_, _, rfl, rfl, hl, h.here A (.int _)⟩
  · exact h.elim
theorem opD_pow : OpD X g (binaryOp .Pow) powD := by
  intro pins s σ H τ S x y v u dx dy Q I rx ry A sx sy h
  unfold powD at h
  split at h
  · obtain rfl := sx.int
    obtain rfl := sy.int
    obtain ⟨hl, h⟩ := h.if_
    exact op_pow pins s σ H _ _ v u Q I rx ry ⟨_, _, rfl, rfl, hl, h.here A (.int _)⟩
  · exact h.elim
theorem unD_neg : UnD X g (unaryOp .USub) negD := by
  intro pins s σ H τ S x v dx Q I rx A sx h
  unfold negD at h
  split at h
  · obtain rfl := sx.int
    exact un_neg pins s σ H _ v Q I rx ⟨_, rfl, h.here A (.int _)⟩
  · exact h.elim
def cmpI (p : Int → Int → Bool) : D → D → Option RV
  | .int i, .int j => some (.dat (.bl (p i j)))
  | _, _ => none
theorem opD_cmpI {op : CmpOp} {p : Int → Int → Bool} (h0 : OpR X (compareOp op) (rI0 fun i j => .bl (p i j))) : OpD X g (compareOp op) (cmpI p) := by
  intro pins s σ H τ S x y v u dx dy Q I rx ry A sx sy h
  unfold cmpI at h
  split at h
  · obtain rfl := sx.int
    obtain rfl := sy.int
    exact h0 pins s σ H _ _ v u Q I rx ry ⟨_, _, rfl, rfl, h.here A (.bl _)⟩
  · exact h.elim
abbrev leD := cmpI fun i j => decide (i ≤ j)
abbrev gtD := cmpI fun i j => decide (j < i)
theorem opD_le : OpD X g (compareOp .LtE) leD := opD_cmpI op_le
theorem opD_gt : OpD X g (compareOp .Gt) gtD := opD_cmpI op_gt
def allInts : List D → Option (List Int)
  | [] => some []
  | .int i :: ds => (allInts ds).map (i :: ·)
  | _ :: _ => none
theorem allInts_eq : ∀ {ds : List D} {ns : List Int}, allInts ds = some ns → ds = ns.map D.int
  | [], ns, h => by cases h; rfl
  | .int i :: ds, ns, h => by
    unfold allInts at h
    cases q : allInts ds with
    | none => rw [q] at h; cases h
    | some ms => rw [q] at h; cases h; rw [allInts_eq q]; rfl
  | .non :: _, _, h => by cases h
  | .bl _ :: _, _, h => by cases h
  | .str _ :: _, _, h => by cases h
  | .sym _ :: _, _, h => by cases h
  | .ref _ :: _, _, h => by cases h
  | .tup _ :: _, _, h => by cases h
  | .lst _ :: _, _, h => by cases h
  | .rol _ :: _, _, h => by cases h
  | .dct _ :: _, _, h => by cases h
def ltD : D → D → Option RV
  | .int i, .int j => some (.dat (.bl (decide (i < j))))
  | .tup a, .tup b => (allInts a).bind fun ns => (allInts b).bind fun ms => some (.dat (.bl (HT.lexLt ns ms)))
  | _, _ => none
theorem EndV.bind_ {α : Type} {K : PySem.W.Frag} {σ : St} {τ : DS} {H S : Hp} {o : Option α} {f : α → Option RV} {Q : VK} (h : EndV g K σ τ H S (o.bind f) Q) : ∃ a, o = some a ∧ EndV g K σ τ H S (f a) Q := by
  cases o with
  | none => exact h.elim
  | some a => exact ⟨a, rfl, h⟩
theorem opD_lt (hu : X.A.units + 64 < cLine) : OpD X g (compareOp .Lt) ltD := by
  intro pins s σ H τ S x y v u dx dy Q I rx ry A sx sy h
  unfold ltD at h
  split at h
  · obtain rfl := sx.int
    obtain rfl := sy.int
    exact op_lt pins s σ H _ _ v u Q I rx ry ⟨_, _, rfl, rfl, h.here A (.bl _)⟩
  · obtain ⟨a, va, rfl, ha, ra⟩ := sx.tup A.le
    obtain ⟨b, vb, rfl, hb, rb⟩ := sy.tup A.le
    obtain ⟨ns, e1, h⟩ := h.bind_
    obtain ⟨ms, e2, h⟩ := h.bind_
    rw [allInts_eq e1] at ra
    rw [allInts_eq e2] at rb
    have z1 := ra.ints
    have z2 := rb.ints
    subst z1 z2
    exact op_ltT (by omega) pins s σ H _ _ v u Q I rx ry ⟨_, _, _, _, rfl, rfl, ha, hb, h.here A (.bl _)⟩
  · exact h.elim
mutual
def pyD : D → Option PyData
  | .non => some .none
  | .bl b => some (.bool b)
  | .int i => some (.int i)
  | .str x => some (.str x)
  | .tup ds => (pyDs ds).map .tuple
  | .lst ds => (pyDs ds).map .list
  | _ => none
def pyDs : List D → Option (List PyData)
  | [] => some []
  | d :: ds => (pyD d).bind fun p => (pyDs ds).map (p :: ·)
end
mutual
theorem Rep.dp {K : PySem.W.Frag} {S : Hp} : ∀ {d : D} {v : V} {p : PyData}, Rep g K S v d → pyD d = some p → Dp K S v p
  | .non, _, _, .non, h => by cases h; exact .non
  | .bl _, _, _, .bl _, h => by cases h; exact .bl _
  | .int _, _, _, .int _, h => by cases h; exact .int _
  | .str _, _, _, .str _, h => by cases h; exact .str _
  | .tup ds, _, _, .tup hs r, h => by
    unfold pyD at h
    cases q : pyDs ds with
    | none => rw [q] at h; cases h
    | some ps => rw [q] at h; cases h; exact .tup hs (RepL.dp r q)
  | .lst ds, _, _, .lst hs r, h => by
    unfold pyD at h
    cases q : pyDs ds with
    | none => rw [q] at h; cases h
    | some ps => rw [q] at h; cases h; exact .lst (SqL.of hs) (RepL.dp r q)
theorem RepL.dp {K : PySem.W.Frag} {S : Hp} : ∀ {ds : List D} {vs : List V} {ps : List PyData}, RepL g K S vs ds → pyDs ds = some ps → DpAll K S vs ps
  | [], _, _, .nil, h => by cases h; exact .nil
  | d :: ds, _, _, .cons r rs, h => by
    unfold pyDs at h
    cases q : pyD d with
    | none => rw [q] at h; cases h
    | some p =>
      rw [q] at h
      dsimp only [Option.bind_some] at h
      cases q2 : pyDs ds with
      | none => rw [q2] at h; cases h
      | some ps => rw [q2] at h; cases h; exact .cons (Rep.dp r q) (RepL.dp rs q2)
end
mutual
theorem Dp.up {K : PySem.W.Frag} {S H : Hp} (le : Same S H) : ∀ {p : PyData} {v : V}, Dp K S v p → Dp K H v p
  | _, _, .non => .non
  | _, _, .bl _ => .bl _
  | _, _, .int _ => .int _
  | _, _, .str _ => .str _
  | _, _, .lst h r => .lst (le.seq h) (DpAll.up le r)
  | _, _, .tup h r => .tup (Same.seqT le h) (DpAll.up le r)
theorem DpAll.up {K : PySem.W.Frag} {S H : Hp} (le : Same S H) : ∀ {p : List PyData} {v : List V}, DpAll K S v p → DpAll K H v p
  | _, _, .nil => .nil
  | _, _, .cons h r => .cons (Dp.up le h) (DpAll.up le r)
end
theorem Shown.dp {K : PySem.W.Frag} {H S : Hp} {v : V} {d : D} {p : PyData} (x : Shown g K H S v d) (le : Same S H) (h : pyD d = some p) : Dp K H v p := by
  cases x with
  | rep r => exact Dp.up le (Rep.dp r h)
  | @own a o c hp r =>
    cases r with
    | @lst vs ds r =>
      unfold Cn.d pyD at h
      cases q : pyDs ds with
      | none => rw [q] at h; cases h
      | some ps => rw [q] at h; cases h; exact .lst (SqL.of hp) (DpAll.up le (RepL.dp r q))
    | dV k r => cases h
def eqB (a b : D) : Option Bool := (pyD a).bind fun p => (pyD b).bind fun q => if SeqAt.shaped p = true ∧ SeqAt.shaped q = true then some (PyData.eqv p q) else none
def eqD (a b : D) : Option RV := (eqB a b).map fun c => .dat (.bl c)
def neD (a b : D) : Option RV := (eqB a b).map fun c => .dat (.bl (!c))
theorem eqB_ok {a b : D} {c : Bool} (h : eqB a b = some c) : ∃ p q, pyD a = some p ∧ pyD b = some q ∧ SeqAt.shaped p = true ∧ SeqAt.shaped q = true ∧ PyData.eqv p q = c := by
  unfold eqB at h
  cases e1 : pyD a with
  | none => rw [e1] at h; cases h
  | some p =>
    cases e2 : pyD b with
    | none => rw [e1, e2] at h; cases h
    | some q =>
      rw [e1, e2] at h
      dsimp only [Option.bind_some] at h
      by_cases hc : SeqAt.shaped p = true ∧ SeqAt.shaped q = true
      · rw [if_pos hc] at h
        exact ⟨p, q, rfl, rfl, hc.1, hc.2, Option.some.inj h⟩
      · rw [if_neg hc] at h; cases h
theorem EndV.map_ {α : Type} {K : PySem.W.Frag} {σ : St} {τ : DS} {H S : Hp} {o : Option α} {f : α → RV} {Q : VK} (h : EndV g K σ τ H S (o.map f) Q) : ∃ a, o = some a ∧ EndV g K σ τ H S (some (f a)) Q := by
  cases o with
  | none => exact h.elim
  | some a => exact ⟨a, rfl, h⟩
theorem opD_eq (hu : X.A.units + 64 < cLine) : OpD X g (compareOp .Eq) eqD := by
  intro pins s σ H τ S x y v u dx dy Q I rx ry A sx sy h
  obtain ⟨c, e, h⟩ := EndV.map_ h
  obtain ⟨p, q, e1, e2, s1, s2, rfl⟩ := eqB_ok e
  exact op_eqD hu pins s σ H _ _ v u Q I rx ry ⟨p, q, sx.dp A.le e1, sy.dp A.le e2, s1, s2, h.here A (.bl _)⟩
theorem opD_ne (hu : X.A.units + 64 < cLine) : OpD X g (compareOp .NotEq) neD := by
  intro pins s σ H τ S x y v u dx dy Q I rx ry A sx sy h
  obtain ⟨c, e, h⟩ := EndV.map_ h
  obtain ⟨p, q, e1, e2, s1, s2, rfl⟩ := eqB_ok e
  exact op_neD hu pins s σ H _ _ v u Q I rx ry ⟨p, q, sx.dp A.le e1, sy.dp A.le e2, s1, s2, h.here A (.bl _)⟩
end
theorem RepL.atI {g : Gm} {K : PySem.W.Frag} {S : Hp} {vs : List V} {ds : List D} {i : Int} {d : D} (r : RepL g K S vs ds) (h : L2.atI ds i = some d) : ∃ v, L2.atI vs i = some v ∧ Rep g K S v d := by
  unfold L2.atI at h ⊢
  rw [r.length]
  cases q : ixN ds.length i with
  | none => rw [q] at h; cases h
  | some j => rw [q] at h; exact r.get h
def ixD : D → D → Option RV
  | .lst ds, .int i => (atI ds i).map .dat
  | .tup ds, .int i => (atI ds i).map .dat
  | .rol ds, .int i => (atI ds i).map .dat
  | _, _ => none
def cutD (ds : List D) (lo hi : Option Int) : List D := (ds.drop (HT.sIx ds.length 0 lo)).take (HT.sIx ds.length ds.length hi - HT.sIx ds.length 0 lo)
theorem RepL.cut {g : Gm} {K : PySem.W.Frag} {S : Hp} {vs : List V} {ds : List D} (r : RepL g K S vs ds) (lo hi : Option Int) : RepL g K S (cutV vs lo hi) (cutD ds lo hi) := by
  unfold cutV cutD
  rw [r.length]
  exact (r.drop _).take _
def slD (d : D) (lo hi : Option Int) : Option RV := match d with
  | .lst ds => some (.fr (.lst (cutD ds lo hi)))
  | .rol ds => some (.fr (.lst (cutD ds lo hi)))
  | .tup ds => some (.dat (.tup (cutD ds lo hi)))
  | _ => none
def mNone : DS → Res (Option Int) := fun τ => .ok none τ
def asInt (r : RV) : Option Int := match r with
  | .dat (.int i) => some i
  | _ => none
def mSome (m : DS → Res RV) : DS → Res (Option Int) := fun τ => (m τ).bind fun r τ1 => ofO ((asInt r).map some) τ1
structure DO (X : Cx) (g : Gm) (W : WX) (e : Option Expr) (m : DS → Res (Option Int)) : Prop where
  po : PO X e fun σ H Q => ∃ τ S, Abs g X.K σ H τ S ∧ FinP g X.K W σ τ H S (m τ) fun _ o H' _ => Q o H'
def mSl (me : DS → Res RV) (ml mh : DS → Res (Option Int)) : DS → Res RV := fun τ => (me τ).bind fun r τ1 => (ml τ1).bind fun lo τ2 => (mh τ2).bind fun hi τ3 => op1 (fun d => slD d lo hi) r τ3
section
variable {X : Cx} {g : Gm} {W : WX} {a b : Expr} {ma mb : DS → Res RV} {pos p2 : Pos}
theorem de_ix (ha : DE X g W a ma) (hb : DE X g W b mb) (hs : PlainIx b := by intro _ _; rfl) : DE X g W (.Subscript a b pos) (mBin ixD ma mb) := by
  refine ⟨PE.imp (pe_ix ix_seq ha.pe hb.pe hs) fun σ H Q h => (two h).mono fun x H1 h => h.mono fun y H2 ⟨τ, S, dx, dy, A, sx, sy, e⟩ => ?_⟩
  unfold ixD at e
  split at e
  · obtain ⟨p, vs, rfl, hp, r⟩ := sx.lst A.le
    obtain rfl := sy.int
    obtain ⟨d, q, e⟩ := EndV.map_ e
    obtain ⟨w, q2, r2⟩ := r.atI q
    exact .inl ⟨p, vs, _, w, rfl, rfl, SqL.of hp, q2, e.here A r2⟩
  · obtain ⟨p, vs, rfl, hp, r⟩ := sx.tup A.le
    obtain rfl := sy.int
    obtain ⟨d, q, e⟩ := EndV.map_ e
    obtain ⟨w, q2, r2⟩ := r.atI q
    exact .inr (.inl ⟨p, vs, _, w, rfl, rfl, hp, q2, e.here A r2⟩)
  · obtain ⟨p, vs, rfl, hp, r⟩ := sx.rol A.le
    obtain rfl := sy.int
    obtain ⟨d, q, e⟩ := EndV.map_ e
    obtain ⟨w, q2, r2⟩ := r.atI q
    exact .inl ⟨p, vs, _, w, rfl, rfl, hp, q2, e.here A r2⟩
  · exact e.elim
theorem PO.imp {X : Cx} {e : Option Expr} {t t' : TO} (h : PO X e t) (i : ∀ σ H Q, t' σ H Q → t σ H Q) : PO X e t' := ⟨fun pins s σ H Q I q => h.run pins s σ H Q I (i σ H Q q)⟩
theorem do_none : DO X g W none mNone := ⟨PO.imp po_none fun _ _ _ ⟨_, _, A, h⟩ => FinP.here A h⟩
theorem do_some (ha : DE X g W a ma) : DO X g W (some a) (mSome ma) := by
  refine ⟨PO.imp (po_some ha.pe) fun σ H Q ⟨τ, S, A, h⟩ => ⟨τ, S, A, (FinP.bind h).mono fun τ1 r H1 S1 A1 e1 h1 v rv => ?_⟩⟩
  cases rv with
  | dat r =>
    cases r with
    | int i => exact ⟨i, rfl, FinP.here A1 h1⟩
    | _ => exact (show False from h1).elim
  | fr _ _ _ _ _ => exact (show False from h1).elim
  | slot _ => exact (show False from h1).elim
theorem de_slice {lo hi : Option Expr} {ml mh : DS → Res (Option Int)} (ha : DE X g W a ma) (hl : DO X g W lo ml) (hh : DO X g W hi mh) : DE X g W (.Subscript a (.Slice lo hi none p2) pos) (mSl ma ml mh) := by
  refine ⟨PE.imp (pe_slice (SlR.or sl_list sl_tupA) ha.pe hl.po hh.po) fun σ H Q h => (LE.bind h).mono fun x H1 ⟨τ1, S1, r, A1, rv, al, h1⟩ => ?_⟩
  refine ⟨τ1, S1, A1, (FinP.bind h1).mono fun τ2 o H2 S2 A2 e2 h2 => ?_⟩
  refine ⟨τ2, S2, A2, (FinP.bind h2).mono fun τ3 o' H3 S3 A3 e3 h3 => ?_⟩
  have al3 : ∀ a, H3 a = none → H a = none := fun a z => al a (e2.al a (e3.al a z))
  obtain ⟨d, q, h4⟩ := ofO_bind_cases h3
  have sx := peek_ok A3 ((rv.ext e2 al).ext e3 (fun a z => al a (e2.al a z))) q
  have e := endV_fin al3 h4
  unfold slD at e
  split at e
  · obtain ⟨p, vs, rfl, hp, r⟩ := sx.lst A3.le
    exact .inl ⟨p, vs, rfl, SqL.of hp, e.lst A3 (r.cut _ _)⟩
  · obtain ⟨p, vs, rfl, hp, r⟩ := sx.rol A3.le
    exact .inl ⟨p, vs, rfl, hp, e.lst A3 (r.cut _ _)⟩
  · rename_i ds
    have sx' := sx
    obtain ⟨p, vs, rfl, hp, r⟩ := sx.tup A3.le
    refine .inr ⟨p, vs, rfl, hp, fun z => ?_, fun _ => e.tup A3 (r.cut _ _)⟩
    have ec : cutD ds o o' = ds := by
      unfold cutD
      rw [← r.length, z.1, z.2, r.length]
      simp
    rw [ec] at e
    generalize hd : D.tup ds = d at sx'
    cases sx' with
    | rep r => subst hd; exact e.here A3 r
    | own h r => cases r <;> cases hd
  · exact e.elim
end
end DL
namespace DL
open PySem PySem.Spec PyProof.Rows L2
def peeks : List RV → DS → Option (List D)
  | [], _ => some []
  | r :: rs, τ => (peek r τ).bind fun d => (peeks rs τ).map (d :: ·)
inductive ShownL (g : Gm) (K : PySem.W.Frag) (H S : Hp) : List V → List D → Prop
  | nil : ShownL g K H S [] []
  | cons {v : V} {vs : List V} {d : D} {ds : List D} : Shown g K H S v d → ShownL g K H S vs ds → ShownL g K H S (v :: vs) (d :: ds)
def CallD (X : Cx) (g : Gm) (fv : Value) (f : List D → Option RV) : Prop :=
  ∀ (pins : List (Addr × Obj)) (s : Shared) (σ : St) (H : Hp) (τ : DS) (S : Hp) (xs : List V) (us : List Value) (ds : List D) (Q : VK), Inv X pins σ H s → Vals xs us → Abs g X.K σ H τ S → ShownL g X.K H S xs ds →
    EndV g X.K σ τ H S (f ds) Q → wpAny (model X.prog X.w) X.A (call fv us) (EP X pins σ Q) X.xe s
def mCB (f : List D → Option RV) (ma : DS → Res (List RV)) : DS → Res RV := fun τ => (ma τ).bind fun rs τ1 => ofO ((peeks rs τ1).bind f) τ1
section
variable {X : Cx} {g : Gm} {W : WX} {x : Str} {p pos : Pos} {e : Expr} {es : List Expr} {ma : DS → Res (List RV)} {id T : String} {f : List D → Option RV}
theorem peeks_ok {K : PySem.W.Frag} {σ : St} {τ : DS} {H0 H S : Hp} {vs : List V} {rs : List RV} {ds : List D} (A : Abs g K σ H τ S) (x : RepVs g K σ τ H0 H S vs rs) (h : peeks rs τ = some ds) : ShownL g K H S vs ds := by
  induction x generalizing ds with
  | nil => cases h; exact .nil
  | @cons v vs r rs a b c ih =>
    unfold peeks at h
    cases q : peek r τ with
    | none => rw [q] at h; cases h
    | some d =>
      rw [q] at h
      dsimp only [Option.bind_some] at h
      cases q2 : peeks rs τ with
      | none => rw [q2] at h; cases h
      | some ds' => rw [q2] at h; cases h; exact .cons (peek_ok A a q) (ih q2)
theorem LE.looked {K : PySem.W.Frag} {σ : St} {H : Hp} {Q : VK} (h : LE g K W (mCB f ma) σ H Q) : LA g K W ma σ H fun vs H1 => ∃ τ S ds, Abs g K σ H1 τ S ∧ ShownL g K H1 S vs ds ∧ EndV g K σ τ H1 S (f ds) Q := by
  obtain ⟨τ, S, A, h⟩ := h
  refine ⟨τ, S, A, (FinP.bind h).mono fun τ1 rs H1 S1 A1 e1 h1 vs rvs => ?_⟩
  obtain ⟨ds, q, h2⟩ := ofO_bind_cases h1
  exact ⟨τ1, S1, ds, A1, peeks_ok A1 rvs q, endV_fin e1.al h2⟩
theorem de_callBi (hc : CallD X g (.builtin id) f) (hg : Gl X x) (hm : X.mg x = none) (hv : bootBuiltins x = some (.builtin id)) (ha : DA X g W (e :: es) ma) (hn : x ≠ "__name__" := by decide) (hdb : (x == ("__debug__" : Str)) = false := by decide)
    (he : starEach (e :: es) X.env = (false, eval e X.env) :: starEach es X.env := by rfl) (hpl : (backTo pos (starEach es X.env)).any (·.1) = false := by rfl) : DE X g W (.Call (.Name x p) (e :: es) [] pos) (mCB f ma) := by
  refine ⟨⟨fun pins s σ H Q I h => ?_⟩⟩
  refine wpAny_Call_Name_kw (ld_blt I hg hm hv ?_ hn hdb)
  exact PyProof.Rows.callWith_builtin1 (thn (ha.pa.run pos pins s σ H _ I (LE.looked h)) fun us s1 ⟨vs, H1, I1, r1, τ, S, ds, A, sh, q1⟩ => hc pins s1 σ H1 τ S vs us ds Q I1 r1 A sh q1) he hpl
theorem de_callTy (hc : CallD X g (.type T) f) (hg : Gl X x) (hm : X.mg x = none) (hv : bootBuiltins x = some (.type T)) (ha : DA X g W (e :: es) ma) (hn : x ≠ "__name__" := by decide) (hdb : (x == ("__debug__" : Str)) = false := by decide)
    (he : starEach (e :: es) X.env = (false, eval e X.env) :: starEach es X.env := by rfl) (hpl : (backTo pos (starEach es X.env)).any (·.1) = false := by rfl) : DE X g W (.Call (.Name x p) (e :: es) [] pos) (mCB f ma) := by
  refine ⟨⟨fun pins s σ H Q I h => ?_⟩⟩
  refine wpAny_Call_Name_kw (ld_blt I hg hm hv ?_ hn hdb)
  exact PyProof.Rows.callWith_type1 (thn (ha.pa.run pos pins s σ H _ I (LE.looked h)) fun us s1 ⟨vs, H1, I1, r1, τ, S, ds, A, sh, q1⟩ => hc pins s1 σ H1 τ S vs us ds Q I1 r1 A sh q1) he hpl
def lenD : List D → Option RV
  | [.lst ds] => some (.dat (.int ds.length))
  | [.rol ds] => some (.dat (.int ds.length))
  | [.tup ds] => some (.dat (.int ds.length))
  | [.str s] => if s.length ≤ bigN then some (.dat (.int s.length)) else none
  | _ => none
theorem callD_len : CallD X g (.builtin "len") lenD := by
  intro pins s σ H τ S xs us ds Q I r A sh h
  unfold lenD at h
  split at h
  · cases sh with
    | cons sx sn =>
      cases sn
      obtain ⟨a, vs, rfl, ha, rl⟩ := sx.lst A.le
      exact call_len pins s σ H _ us Q I r ⟨_, vs.length, rfl, .inl ⟨vs, SqL.of ha, rfl⟩, by rw [rl.length]; exact h.here A (.int _)⟩
  · cases sh with
    | cons sx sn =>
      cases sn
      obtain ⟨a, vs, rfl, ha, rl⟩ := sx.rol A.le
      exact call_len pins s σ H _ us Q I r ⟨_, vs.length, rfl, .inl ⟨vs, ha, rfl⟩, by rw [rl.length]; exact h.here A (.int _)⟩
  · cases sh with
    | cons sx sn =>
      cases sn
      obtain ⟨a, vs, rfl, ha, rl⟩ := sx.tup A.le
      exact call_len pins s σ H _ us Q I r ⟨_, vs.length, rfl, .inr ⟨vs, ha, rfl⟩, by rw [rl.length]; exact h.here A (.int _)⟩
  · cases sh with
    | cons sx sn =>
      cases sn
      obtain rfl := sx.str
      obtain ⟨hl, h⟩ := h.if_
      exact call_len pins s σ H _ us Q I r ⟨_, _, rfl, ⟨Nat.le_trans hl bigN_le, rfl⟩, h.here A (.int _)⟩
  · exact h.elim
def absD : List D → Option RV
  | [.int i] => some (.dat (.int (if i < 0 then -i else i)))
  | _ => none
theorem callD_abs : CallD X g (.builtin "abs") absD := by
  intro pins s σ H τ S xs us ds Q I r A sh h
  unfold absD at h
  split at h
  · cases sh with
    | cons sx sn =>
      cases sn
      obtain rfl := sx.int
      exact call_abs pins s σ H _ us Q I r ⟨_, rfl, h.here A (.int _)⟩
  · exact h.elim
def int1D : List D → Option RV
  | [.int i] => some (.dat (.int i))
  | [.bl k] => some (.dat (.int (if k then 1 else 0)))
  | _ => none
theorem callD_int : CallD X g (.type "int") int1D := by
  intro pins s σ H τ S xs us ds Q I r A sh h
  unfold int1D at h
  split at h
  · cases sh with
    | cons sx sn =>
      cases sn
      obtain rfl := sx.int
      exact call_int1 pins s σ H _ us Q I r (.inl ⟨_, rfl, h.here A (.int _)⟩)
  · cases sh with
    | cons sx sn =>
      cases sn
      obtain rfl := sx.bl
      exact call_int1 pins s σ H _ us Q I r (.inr ⟨_, rfl, h.here A (.int _)⟩)
  · exact h.elim
def maxI : List Int → Option Int
  | [] => none
  | n :: ns => some (ns.foldl (fun a b => if b > a then b else a) n)
theorem maxF (ns : List Int) : ∀ n : Int, (ns.foldl (fun a b => if b > a then b else a) n = n ∨ ns.foldl (fun a b => if b > a then b else a) n ∈ ns) ∧ n ≤ ns.foldl (fun a b => if b > a then b else a) n ∧ ∀ y ∈ ns, y ≤ ns.foldl (fun a b => if b > a then b else a) n := by
  induction ns with
  | nil => intro n; simp
  | cons m ns ih =>
    intro n
    rw [List.foldl_cons]
    have ht : (if m > n then m else n) = n ∨ (if m > n then m else n) = m := by split <;> simp
    have hn : n ≤ (if m > n then m else n) ∧ m ≤ (if m > n then m else n) := by split <;> omega
    revert ht hn
    generalize (if m > n then m else n) = t
    intro ht hn
    obtain ⟨h1, h2, h3⟩ := ih t
    refine ⟨?_, Int.le_trans hn.1 h2, fun y hy => ?_⟩
    · rcases h1 with h1 | h1
      · rw [h1]
        rcases ht with e | e
        · exact .inl e
        · rw [e]; exact .inr List.mem_cons_self
      · exact .inr (List.mem_cons_of_mem _ h1)
    · rcases List.mem_cons.mp hy with e | hy
      · rw [e]; exact Int.le_trans hn.2 h2
      · exact h3 y hy
def maxD : List D → Option RV
  | [.int i, .int j] => some (.dat (.int (if j > i then j else i)))
  | [.lst ds] => (allInts ds).bind fun ns => (maxI ns).map fun m => .dat (.int m)
  | _ => none
theorem callD_max (hc : X.calm = true) : CallD X g (.builtin "max") maxD := by
  intro pins s σ H τ S xs us ds Q I r A sh h
  unfold maxD at h
  split at h
  · cases sh with
    | cons sx sn =>
      cases sn with
      | cons sy sn =>
        cases sn
        obtain rfl := sx.int
        obtain rfl := sy.int
        exact call_max2 hc pins s σ H _ us Q I r ⟨_, _, rfl, h.here A (.int _)⟩
  · cases sh with
    | cons sx sn =>
      cases sn
      obtain ⟨a, vs, rfl, ha, rl⟩ := sx.lst A.le
      obtain ⟨ns, e1, h⟩ := h.bind_
      obtain ⟨m, e2, h⟩ := h.map_
      rw [allInts_eq e1] at rl
      have z := rl.ints
      subst z
      cases ns with
      | nil => cases e2
      | cons n ns =>
        obtain ⟨h1, h2, h3⟩ := maxF ns n
        have e3 := Option.some.inj e2
        rw [e3] at h1 h2 h3
        refine cr_max hc pins s σ H _ us Q I r ⟨a, _, rfl, SqL.of ha, by simp, fun y hy hmax => ?_⟩
        have e : y = m := by
          have z1 : y ≤ m := by
            rcases List.mem_cons.mp hy with e | hy
            · rw [e]; exact h2
            · exact h3 y hy
          have z2 : m ≤ y := by
            rcases h1 with e | hm
            · rw [e]; exact hmax n List.mem_cons_self
            · exact hmax m (List.mem_cons_of_mem _ hm)
          omega
        rw [e]
        first
          | exact h.here A (.int _)
          | (rw [← e3]; exact h.here A (.int _))
  · exact h.elim
def allBls : List D → Option (List Bool)
  | [] => some []
  | .bl b :: ds => (allBls ds).map (b :: ·)
  | _ :: _ => none
theorem allBls_eq : ∀ {ds : List D} {ns : List Bool}, allBls ds = some ns → ds = ns.map D.bl
  | [], ns, h => by cases h; rfl
  | .bl i :: ds, ns, h => by
    unfold allBls at h
    cases q : allBls ds with
    | none => rw [q] at h; cases h
    | some ms => rw [q] at h; cases h; rw [allBls_eq q]; rfl
  | .non :: _, _, h => by cases h
  | .int _ :: _, _, h => by cases h
  | .str _ :: _, _, h => by cases h
  | .sym _ :: _, _, h => by cases h
  | .ref _ :: _, _, h => by cases h
  | .tup _ :: _, _, h => by cases h
  | .lst _ :: _, _, h => by cases h
  | .rol _ :: _, _, h => by cases h
  | .dct _ :: _, _, h => by cases h
theorem RepL.bls {K : PySem.W.Frag} {S : Hp} : ∀ {vs : List V} {ns : List Bool}, RepL g K S vs (ns.map D.bl) → vs = ns.map V.bl
  | _, [], .nil => rfl
  | _, n :: ns, .cons (.bl _) t => by rw [RepL.bls t]; rfl
def allD : List D → Option RV
  | [.lst ds] => (allBls ds).map fun ns => .dat (.bl (ns.all fun b => b))
  | _ => none
theorem callD_all (hc : X.calm = true) : CallD X g (.builtin "all") allD := by
  intro pins s σ H τ S xs us ds Q I r A sh h
  unfold allD at h
  split at h
  · cases sh with
    | cons sx sn =>
      cases sn
      obtain ⟨a, vs, rfl, ha, rl⟩ := sx.lst A.le
      obtain ⟨ns, e1, h⟩ := h.map_
      rw [allBls_eq e1] at rl
      have z := rl.bls
      subst z
      exact cr_all hc pins s σ H _ us Q I r ⟨a, _, rfl, SqL.of ha, h.here A (.bl _)⟩
  · exact h.elim
def listD : List D → Option RV
  | [.lst ds] => some (.fr (.lst ds))
  | [.rol ds] => some (.fr (.lst ds))
  | [.tup ds] => some (.fr (.lst ds))
  | _ => none
theorem callD_list : CallD X g (.type "list") listD := by
  intro pins s σ H τ S xs us ds Q I r A sh h
  unfold listD at h
  split at h
  · cases sh with
    | cons sx sn =>
      cases sn
      obtain ⟨a, vs, rfl, ha, rl⟩ := sx.lst A.le
      exact call_list_of pins s σ H _ us Q I r ⟨a, vs, rfl, .inl (SqL.of ha), h.lst A rl⟩
  · cases sh with
    | cons sx sn =>
      cases sn
      obtain ⟨a, vs, rfl, ha, rl⟩ := sx.rol A.le
      exact call_list_of pins s σ H _ us Q I r ⟨a, vs, rfl, .inl ha, h.lst A rl⟩
  · cases sh with
    | cons sx sn =>
      cases sn
      obtain ⟨a, vs, rfl, ha, rl⟩ := sx.tup A.le
      exact call_list_of pins s σ H _ us Q I r ⟨a, vs, rfl, .inr ha, h.lst A rl⟩
  · exact h.elim
def tupleD : List D → Option RV
  | [.lst ds] => some (.dat (.tup ds))
  | [.tup ds] => some (.dat (.tup ds))
  | _ => none
theorem callD_tuple : CallD X g (.type "tuple") tupleD := by
  intro pins s σ H τ S xs us ds Q I r A sh h
  unfold tupleD at h
  split at h
  · cases sh with
    | cons sx sn =>
      cases sn
      obtain ⟨a, vs, rfl, ha, rl⟩ := sx.lst A.le
      exact call_tuple_of pins s σ H _ us Q I r ⟨a, vs, rfl, .inl ⟨SqL.of ha, h.tup A rl⟩⟩
  · rename_i ds
    cases sh with
    | cons sx sn =>
      cases sn
      have sx' := sx
      obtain ⟨a, vs, rfl, ha, rl⟩ := sx.tup A.le
      refine call_tuple_of pins s σ H _ us Q I r ⟨a, vs, rfl, .inr ⟨ha, ?_⟩⟩
      generalize hd : D.tup ds = d at sx'
      cases sx' with
      | rep r => subst hd; exact h.here A r
      | own h r => cases r <;> cases hd
  · exact h.elim
def isT (T : String) (d : D) : Option Bool := match d with
  | .non => kitB "NoneType" T
  | .bl _ => kitB "bool" T
  | .int _ => kitB "int" T
  | .str _ => kitB "str" T
  | .tup _ => kitB "tuple" T
  | .lst _ => kitB "list" T
  | .dct _ => kitB "dict" T
  | _ => none
def mIsi (T : String) (me : DS → Res RV) : DS → Res RV := mUn (fun d => (isT T d).map fun b => .dat (.bl b)) me
theorem Shown.dv {K : PySem.W.Frag} {H S : Hp} {v : V} {kvs : List (D × D)} (x : Shown g K H S v (.dct kvs)) (le : Same S H) : ∃ a ep es ds, v = .ref a ∧ H a = some (.ext (DVp a ep es)) ∧ (∀ e ∈ es, SqT K S e.2.1 (e.1.map V.int)) ∧ RepL g K S (es.map (·.2.2)) ds ∧ kvs = (es.map fun e => D.tup (e.1.map D.int)).zip ds := by
  generalize hd : D.dct kvs = d at x
  cases x with
  | rep r =>
    cases r with
    | dV h k r => cases hd; exact ⟨_, _, _, _, rfl, le _ _ h, k, r, rfl⟩
    | _ => cases hd
  | own h r =>
    cases r with
    | lst r => cases hd
    | dV k r => cases hd; exact ⟨_, _, _, _, rfl, h, k, r, rfl⟩
theorem tyx_lst {K : PySem.W.Frag} {H : Hp} {a : Addr} {vs : List V} (h : SqT K H a vs) : TyX K H (.ref a) (.type "tuple") := by
  rcases h with (h | ⟨o, h⟩) | ⟨o, its, n, h, hc, _⟩
  · exact .base (.tup h)
  · exact .fTuple h
  · exact .kTuple h hc
def rIsiV (K : PySem.W.Frag) : List V → Hp → VK → Prop := fun xs H Q => rIsi K xs H Q ∨ ∃ (a : Addr) (ep : Nat) (es : List (List Int × Addr × V)) (T : String) (b : Bool), xs = [.ref a, .ty T] ∧ H a = some (.ext (DVp a ep es)) ∧ PySem.W.kitOne K (.type "dict") (.type T) = some b ∧ Q (.bl b) H
theorem call_isiV : CallR X (.builtin "isinstance") (rIsiV X.K) := by
  intro pins s σ H xs us Q I r h
  rcases h with h | ⟨a, ep, es, T, b, rfl, ha, e, q⟩
  · exact call_isi pins s σ H xs us Q I r h
  · obtain ⟨u1, u2, rfl, r1, r2⟩ := vals2 r
    cases (show u1 = Value.ref a from r1)
    cases (show u2 = Value.type T from r2)
    obtain ⟨_, _, _, _, _, o, _, h1, h2, _⟩ := (I.hok a _ ha).1
    exact PySem.W.kia_one PySem.W.kitx_dict I.kIn ⟨o, h1, h2.1⟩ e (fun z => nomatch z) fun tk => ⟨.bl b, H, I.tok tk, rfl, q⟩
theorem de_isi {x2 : Str} {p2 : Pos} {me : DS → Res RV} (T : String) (hg : Gl X "isinstance") (hm : X.mg "isinstance" = none) (hgT : Gl X x2) (hmT : X.mg x2 = none) (hvT : bootBuiltins x2 = some (.type T)) (he : DE X g W e me) (hnT : x2 ≠ "__name__" := by decide) (hdT : (x2 == ("__debug__" : Str)) = false := by decide)
    (hs : starEach [e, .Name x2 p2] X.env = (false, eval e X.env) :: starEach [.Name x2 p2] X.env := by rfl) (hs2 : starEach [.Name x2 p2] X.env = (false, eval (.Name x2 p2) X.env) :: starEach [] X.env := by rfl) (hpl : (backTo pos (starEach [.Name x2 p2] X.env)).any (·.1) = false := by rfl) :
    DE X g W (.Call (.Name "isinstance" p) [e, .Name x2 p2] [] pos) (mIsi T me) := by
  refine ⟨PE.imp (pe_callB call_isiV hg hm boot_isinstance (pa_cons he.pe (pa_cons (pe_bltn (v := .ty T) hgT hmT hvT rfl hnT hdT) pa_nil hs2) hs) (he := hs) (hpl := hpl)) fun σ H Q h => (one h).mono fun x H1 ⟨τ, S, d, A, sx, en⟩ => ?_⟩
  obtain ⟨b, q, en⟩ := en.map_
  have okb : Q (.bl b) H1 := en.here A (.bl b)
  have fin : ∀ {t : Value}, TyX X.K H1 x t → PySem.W.kitOne X.K t (.type T) = some b → rIsiV X.K [x, .ty T] H1 Q := fun {t} ty k => .inl ⟨x, .ty T, t, .type T, b, rfl, .ty T, ty, k, en.here A (.bl b)⟩
  unfold isT at q
  split at q
  · obtain rfl := sx.non; exact fin (.base .non) (kit_ty q)
  · obtain rfl := sx.bl; exact fin (.base (.bl _)) (kit_ty q)
  · obtain rfl := sx.int; exact fin (.base (.int _)) (kit_ty q)
  · obtain rfl := sx.str; exact fin (.base (.str _)) (kit_ty q)
  · obtain ⟨a, vs, rfl, ha, _⟩ := sx.tup A.le
    exact fin (tyx_lst ha) (kit_ty q)
  · obtain ⟨a, vs, rfl, ha, _⟩ := sx.lst A.le
    exact fin (.base (.lst ha)) (kit_ty q)
  · obtain ⟨a, ep, es, ds, rfl, ha, _⟩ := sx.dv A.le
    exact .inr ⟨a, ep, es, T, b, rfl, ha, kit_ty q, okb⟩
  · cases q
end
def mChain (p q : Int → Int → Bool) (ma mb mc : DS → Res RV) : DS → Res RV := fun τ => (ma τ).bind fun x τ1 => (mb τ1).bind fun y τ2 => match asInt x, asInt y with
  | some i, some j => if p i j = true then (mc τ2).bind fun z τ3 => (match asInt z with
    | some l => .ok (.dat (.bl (q j l))) τ3
    | none => .stuck) else .ok (.dat (.bl false)) τ2
  | _, _ => .stuck
section
variable {X : Cx} {g : Gm} {W : WX} {a b c : Expr} {ma mb mc : DS → Res RV} {pos : Pos}
theorem asInt_some {r : RV} {i : Int} (h : asInt r = some i) : r = .dat (.int i) := by
  unfold asInt at h
  split at h
  · cases h; rfl
  · cases h
theorem chain_ok {K : PySem.W.Frag} {σ : St} {H : Hp} {p q : Int → Int → Bool} {Q : VK} (h : LE g K W (mChain p q ma mb mc) σ H Q) :
    tChain (rI0 fun i j => .bl (p i j)) (rI0 fun i j => .bl (q i j)) (LE g K W ma) (LE g K W mb) (LE g K W mc) σ H Q := by
  refine (LE.bind h).mono fun x H1 ⟨τ1, S1, rx, A1, rvx, al1, h1⟩ => ?_
  refine ⟨τ1, S1, A1, (FinP.bind h1).mono fun τ2 ry H2 S2 A2 e2 h2 y rvy => ?_⟩
  cases e3 : asInt rx with
  | none => rw [e3] at h2; exact h2.elim
  | some i =>
    cases e4 : asInt ry with
    | none => rw [e3, e4] at h2; exact h2.elim
    | some j =>
      rw [e3, e4] at h2
      dsimp only at h2
      have z1 := asInt_some e3
      have z2 := asInt_some e4
      subst z1 z2
      cases rvx with
      | dat r1 =>
        cases r1
        cases rvy with
        | dat r2 =>
          cases r2
          refine ⟨i, j, rfl, rfl, p i j, rfl, ?_⟩
          have al2 : ∀ a, H2 a = none → H a = none := fun a z => al1 a (e2.al a z)
          by_cases hp : p i j = true
          · rw [if_pos hp] at h2
            rw [if_pos hp]
            refine ⟨τ2, S2, A2, (FinP.bind h2).mono fun τ3 rz H3 S3 A3 e3' h3 z rvz => ?_⟩
            cases e5 : asInt rz with
            | none => rw [e5] at h3; exact h3.elim
            | some l =>
              rw [e5] at h3
              have z3 := asInt_some e5
              subst z3
              cases rvz with
              | dat r3 =>
                cases r3
                exact ⟨j, l, rfl, rfl, FinP.val (H0 := H) A3 (fun _ => .bl _) h3⟩
          · rw [if_neg hp] at h2
            rw [if_neg hp]
            exact FinP.val A2 (fun _ => .bl false) h2
theorem de_chain {op op' : CmpOp} {p q : Int → Int → Bool} (ho : OpR X (compareOp op) (rI0 fun i j => .bl (p i j))) (ho' : OpR X (compareOp op') (rI0 fun i j => .bl (q i j))) (ha : DE X g W a ma) (hb : DE X g W b mb) (hc : DE X g W c mc) (hm : lastMarks [op, op'] [b, c] = false := by rfl) :
    DE X g W (.Compare a [op, op'] [b, c] pos) (mChain p q ma mb mc) := ⟨PE.imp (pe_chain ho ho' ha.pe hb.pe hc.pe (hm := hm)) fun _ _ _ h => chain_ok h⟩
end
end DL
set_option maxHeartbeats 1000000
namespace DL
open PySem PySem.Spec PyProof.Rows L2
def methAt (i : Nat) (f : List D → List D → Option (D × List D)) (ds : List D) (τ : DS) : Res RV := match τ[i]? with
  | some (.own (.lst xs)) => (match f xs ds with
    | some (r, ys) => .ok (.dat r) (τ.set i (.own (.lst ys)))
    | none => .stuck)
  | _ => .stuck
def mMeth (i : Nat) (f : List D → List D → Option (D × List D)) (ma : DS → Res (List RV)) : DS → Res RV := fun τ => match τ[i]? with
  | some (.own (.lst _)) => mFast ma (methAt i f) τ
  | _ => .stuck
section
variable {X : Cx} {g : Gm} {W : WX} {k : Nat → Bool} {ma : DS → Res (List RV)} {x : Str} {e : Expr} {es : List Expr} {pos apos p : Pos}
theorem Abs.pokeSlot {K : PySem.W.Frag} {σ : St} {τ : DS} {H S : Hp} {j : Nat} {q : Addr} {c c' : Cn} {o' : HO} (A : Abs g K σ H τ S) (hj : τ[j]? = some (SV.own c)) (hs : σ[j]? = some (some (.ref q))) (hq : H q ≠ none) (n : S q = none) (h3 : RepC g K S q o' c') :
    Abs g K σ (upd H q o') (τ.set j (.own c')) S ∧ Ext σ τ H S σ (τ.set j (.own c')) (upd H q o') S := by
  obtain ⟨q', o0, y1, y2, _, y4⟩ := A.own j c hj
  rw [hs] at y1
  cases y1
  refine A.backB hj hs ⟨fun b y e => ?_, A.tab.upd y2 y4.nt⟩ ⟨Same.refl _, fun a y e1 _ e2 ne => ⟨by rw [upd_ne ne]; exact e1, e2⟩, fun a e => ?_⟩ upd_same n h3
  · have ne : b ≠ q := fun z => by subst z; rw [n] at e; cases e
    rw [upd_ne ne]; exact A.le _ _ e
  · by_cases hb : a = q
    · subst hb; rw [upd_same] at e; cases e
    · rw [upd_ne hb] at e; exact e
theorem meth_ok {K : PySem.W.Frag} {i : Nat} {f : List D → List D → Option (D × List D)} {σ : St} {H : Hp} {Q : VK} (h : LE g K W (mMeth i f ma) σ H Q) :
    ∃ a, σ[i]? = some (some (.ref a)) ∧ (∃ lv, H a = some (.lst lv)) ∧ LA g K W ma σ H fun vs H1 => ∃ S lv xs ds r ys, H1 a = some (.lst lv) ∧ RepL g K S lv xs ∧ RepL g K S vs ds ∧ f xs ds = some (r, ys) ∧ ∀ w lv', RepL g K S lv' ys → Rep g K S w r → Q w (upd H1 a (.lst lv')) := by
  obtain ⟨τ, S, A, h⟩ := h
  unfold mMeth at h
  cases q0 : τ[i]? with
  | none => rw [q0] at h; exact h.elim
  | some sv =>
    rw [q0] at h
    cases sv with
    | emp => exact h.elim
    | dat d => exact h.elim
    | own c0 =>
      cases c0 with
      | dct _ => exact h.elim
      | lst xs0 =>
        obtain ⟨a, o, hv, h0, _, r0⟩ := A.own i _ q0
        refine ⟨a, hv, ?_, τ, S, A, (LA.fast h).mono fun τ1 rs H1 S1 A1 e1 q vs rvs => ?_⟩
        · cases r0 with
          | lst r => exact ⟨_, h0⟩
        · obtain ⟨τ2, S2, ds, A2, e2, rl, h2⟩ := q vs rvs
          unfold methAt at h2
          cases q : τ2[i]? with
          | none => rw [q] at h2; exact h2.elim
          | some sv =>
            rw [q] at h2
            cases sv with
            | emp => exact h2.elim
            | dat d => exact h2.elim
            | own c =>
              cases c with
              | dct _ => exact h2.elim
              | lst xs =>
                dsimp only at h2
                obtain ⟨b, o', z1, z2, z3, z4⟩ := A2.own i _ q
                rw [hv] at z1; cases z1
                cases z4 with
                | lst z4 =>
                  cases q3 : f xs ds with
                  | none => rw [q3] at h2; exact h2.elim
                  | some p =>
                    obtain ⟨r, ys⟩ := p
                    rw [q3] at h2
                    refine ⟨S2, _, xs, ds, r, ys, z2, z4, rl, q3, fun w lv' rl' rw' => ?_⟩
                    obtain ⟨A3, e3⟩ := A2.pokeSlot q hv (by rw [z2]; simp) z3 (.lst rl')
                    exact h2 _ _ A3 e3 w (.dat rw')
theorem meth_okA {K : PySem.W.Frag} {i : Nat} {f : List D → List D → Option (D × List D)} {σ : St} {H : Hp} {Q : VK} (h : LE g K W (mMeth i f ma) σ H Q) :
    ∃ a, σ[i]? = some (some (.ref a)) ∧ (∃ lv, H a = some (.lst lv)) ∧ ∃ τ S, Abs g K σ H τ S ∧ FinP g K W σ τ H S (ma τ) fun τ1 rs H1 S1 => ∀ vs, RepVs g K σ τ1 H H1 S1 vs rs → ∃ S lv xs ds r ys, H1 a = some (.lst lv) ∧ Same S H1 ∧ RepL g K S lv xs ∧ RepL g K S vs ds ∧ f xs ds = some (r, ys) ∧ ∀ w lv', RepL g K S lv' ys → Rep g K S w r → Q w (upd H1 a (.lst lv')) := by
  obtain ⟨τ, S, A, h⟩ := h
  unfold mMeth at h
  cases q0 : τ[i]? with
  | none => rw [q0] at h; exact h.elim
  | some sv =>
    rw [q0] at h
    cases sv with
    | emp => exact h.elim
    | dat d => exact h.elim
    | own c0 =>
      cases c0 with
      | dct _ => exact h.elim
      | lst xs0 =>
        obtain ⟨a, o, hv, h0, _, r0⟩ := A.own i _ q0
        refine ⟨a, hv, ?_, τ, S, A, (LA.fast h).mono fun τ1 rs H1 S1 A1 e1 q vs rvs => ?_⟩
        · cases r0 with
          | lst r => exact ⟨_, h0⟩
        · obtain ⟨τ2, S2, ds, A2, e2, rl, h2⟩ := q vs rvs
          unfold methAt at h2
          cases q : τ2[i]? with
          | none => rw [q] at h2; exact h2.elim
          | some sv =>
            rw [q] at h2
            cases sv with
            | emp => exact h2.elim
            | dat d => exact h2.elim
            | own c =>
              cases c with
              | dct _ => exact h2.elim
              | lst xs =>
                dsimp only at h2
                obtain ⟨b, o', z1, z2, z3, z4⟩ := A2.own i _ q
                rw [hv] at z1; cases z1
                cases z4 with
                | lst z4 =>
                  cases q3 : f xs ds with
                  | none => rw [q3] at h2; exact h2.elim
                  | some p =>
                    obtain ⟨r, ys⟩ := p
                    rw [q3] at h2
                    refine ⟨S2, _, xs, ds, r, ys, z2, A2.le, z4, rl, q3, fun w lv' rl' rw' => ?_⟩
                    obtain ⟨A3, e3⟩ := A2.pokeSlot q hv (by rw [z2]; simp) z3 (.lst rl')
                    exact h2 _ _ A3 e3 w (.dat rw')
theorem tyL {K : PySem.W.Frag} {H : Hp} {a : Addr} {lv : List V} (h : H a = some (.lst lv)) : tyV K "list" (.ref a) H := .inl ⟨rfl, lv, SqL.of h⟩
theorem RepL.eraseIdx {K : PySem.W.Frag} {S : Hp} : ∀ {vs : List V} {ds : List D} (n : Nat), RepL g K S vs ds → RepL g K S (vs.eraseIdx n) (ds.eraseIdx n)
  | _, _, _, .nil => .nil
  | _, _, 0, .cons r t => t
  | _, _, n + 1, .cons r t => .cons r (RepL.eraseIdx n t)
def fAppend (xs ds : List D) : Option (D × List D) := match ds with
  | [d] => if xs.length < bigN then some (.non, xs ++ [d]) else none
  | _ => none
def fPop (xs ds : List D) : Option (D × List D) := match ds with
  | [] => xs.getLast?.map fun d => (d, xs.dropLast)
  | _ => none
def fPopAt (xs ds : List D) : Option (D × List D) := match ds with
  | [.int i] => if xs.length ≤ bigN then (ixN xs.length i).bind fun j => (xs[j]?).map fun d => (d, xs.eraseIdx j) else none
  | _ => none
def fExtend (xs ds : List D) : Option (D × List D) := match ds with
  | [.lst ys] => if xs.length + ys.length ≤ bigN then some (.non, xs ++ ys) else none
  | _ => none
variable (i : Nat)
theorem de_append {p2 : Pos} (ha : DA X g W [e] ma) (hN : X.N[i]? = some x := by rfl) (hv : Vis X.env.scope x := by first | exact Or.inl rfl | exact Or.inr (Or.inl rfl) | exact Or.inr (Or.inr rfl)) (hd : (x == ("__debug__" : Str)) = false := by decide) (hcd : (x == ("__classdict__" : Str)) = false := by decide)
    (hbase : attributeBase (.Name x p2) "append" X.env (eval (.Name x p2) X.env) = eval (.Name x p2) X.env := by rfl)
    (hfew : ((backTo pos (starEach [e] X.env)).all (fun x => !x.1) && (backToKw pos (keywordEach [] X.env)).all (fun x => x.1.isSome)
      && decide (([e] : List Expr).length + ([] : List Keyword).length + (if ([] : List Keyword).isEmpty then 0 else 1) < 30)) = true := by rfl)
    (hline : (apos.endLine == pos.line) = true := by rfl) (hs : starEach [e] X.env = (false, eval e X.env) :: starEach [] X.env := by rfl) (hplain : (backTo pos (starEach [] X.env)).any (·.1) = false := by rfl) :
    DE X g W (.Call (.Attribute (.Name x p2) "append" apos) [e] [] pos) (mMeth i fAppend ma) := by
  refine ⟨PE.imp (pe_bm PySem.F.plainAttrs_list PySem.F.slot_list_append PySem.F.type_list_append mt_append (pe_var (i := i) hN hv hd hcd) ha.pa hbase hfew hline hs hplain) fun σ H Q h => ?_⟩
  obtain ⟨a, hv, ⟨lv0, h0⟩, hq⟩ := meth_ok h
  refine ⟨_, hv, tyL h0, hq.mono fun vs H1 ⟨S, lv, xs, ds, r, ys, h1, rl, ra, hf, q⟩ => ?_⟩
  unfold fAppend at hf
  split at hf
  · split at hf
    · rename_i hl
      cases hf
      cases ra with
      | cons rd rn =>
        cases rn
        exact ⟨a, lv, _, rfl, rfl, h1, by rw [rl.length]; exact Nat.lt_of_lt_of_le hl bigN_le, q _ _ (rl.append (.cons rd .nil)) .non⟩
    · cases hf
  · cases hf
theorem de_pop {p2 : Pos} (hN : X.N[i]? = some x := by rfl) (hv : Vis X.env.scope x := by first | exact Or.inl rfl | exact Or.inr (Or.inl rfl) | exact Or.inr (Or.inr rfl)) (hd : (x == ("__debug__" : Str)) = false := by decide) (hcd : (x == ("__classdict__" : Str)) = false := by decide)
    (hbase : attributeBase (.Name x p2) "pop" X.env (eval (.Name x p2) X.env) = eval (.Name x p2) X.env := by rfl) (hline : (apos.endLine == pos.line) = true := by rfl) :
    DE X g W (.Call (.Attribute (.Name x p2) "pop" apos) [] [] pos) (mMeth i fPop mNil) := by
  refine ⟨PE.imp (pe_bm0 PySem.F.plainAttrs_list PySem.F.slot_list_pop PySem.F.type_list_pop mt_pop (pe_var (i := i) hN hv hd hcd) hbase hline) fun σ H Q h => ?_⟩
  obtain ⟨a, hv, ⟨lv0, h0⟩, τ, S, A, hq⟩ := meth_ok h
  refine ⟨_, hv, tyL h0, ?_⟩
  obtain ⟨S, lv, xs, ds, r, ys, h1, rl, ra, hf, q⟩ := FinP.here A hq [] .nil
  cases ra
  unfold fPop at hf
  dsimp only at hf
  cases q2 : xs.getLast? with
  | none => rw [q2] at hf; cases hf
  | some d =>
    rw [q2] at hf
    cases hf
    rw [List.getLast?_eq_getElem?] at q2
    obtain ⟨v, q3, rv⟩ := rl.get q2
    refine ⟨a, lv, v, rfl, rfl, h1, by rw [rl.length]; exact q3, q _ _ ?_ rv⟩
    rw [List.dropLast_eq_take, List.dropLast_eq_take, rl.length]
    exact rl.take _
theorem de_popAt {p2 : Pos} (ha : DA X g W [e] ma) (hN : X.N[i]? = some x := by rfl) (hv : Vis X.env.scope x := by first | exact Or.inl rfl | exact Or.inr (Or.inl rfl) | exact Or.inr (Or.inr rfl)) (hd : (x == ("__debug__" : Str)) = false := by decide) (hcd : (x == ("__classdict__" : Str)) = false := by decide)
    (hbase : attributeBase (.Name x p2) "pop" X.env (eval (.Name x p2) X.env) = eval (.Name x p2) X.env := by rfl)
    (hfew : ((backTo pos (starEach [e] X.env)).all (fun x => !x.1) && (backToKw pos (keywordEach [] X.env)).all (fun x => x.1.isSome)
      && decide (([e] : List Expr).length + ([] : List Keyword).length + (if ([] : List Keyword).isEmpty then 0 else 1) < 30)) = true := by rfl)
    (hline : (apos.endLine == pos.line) = true := by rfl) (hs : starEach [e] X.env = (false, eval e X.env) :: starEach [] X.env := by rfl) (hplain : (backTo pos (starEach [] X.env)).any (·.1) = false := by rfl) :
    DE X g W (.Call (.Attribute (.Name x p2) "pop" apos) [e] [] pos) (mMeth i fPopAt ma) := by
  refine ⟨PE.imp (pe_bm PySem.F.plainAttrs_list PySem.F.slot_list_pop PySem.F.type_list_pop mt_popAt (pe_var (i := i) hN hv hd hcd) ha.pa hbase hfew hline hs hplain) fun σ H Q h => ?_⟩
  obtain ⟨a, hv, ⟨lv0, h0⟩, hq⟩ := meth_ok h
  refine ⟨_, hv, tyL h0, hq.mono fun vs H1 ⟨S, lv, xs, ds, r, ys, h1, rl, ra, hf, q⟩ => ?_⟩
  unfold fPopAt at hf
  split at hf
  · rename_i n
    split at hf
    · rename_i hl
      cases q2 : ixN xs.length n with
      | none => rw [q2] at hf; cases hf
      | some j =>
        rw [q2] at hf
        dsimp only [Option.bind_some] at hf
        cases q3 : xs[j]? with
        | none => rw [q3] at hf; cases hf
        | some d =>
          rw [q3] at hf
          cases hf
          obtain ⟨z1, z2, z3, z4⟩ := ixN_seq q2
          obtain ⟨v, q4, rv⟩ := rl.get q3
          cases ra with
          | cons rd rn =>
            cases rn
            cases rd
            have hb : xs.length ≤ 1000000 := hl
            refine ⟨a, lv, n, j, v, rfl, rfl, h1, by omega, by omega, by rw [rl.length]; exact z1, q4, q _ _ ?_ rv⟩
            exact rl.eraseIdx j
    · cases hf
  · cases hf
theorem de_extend {p2 : Pos} (ha : DA X g W [e] ma) (hN : X.N[i]? = some x := by rfl) (hv : Vis X.env.scope x := by first | exact Or.inl rfl | exact Or.inr (Or.inl rfl) | exact Or.inr (Or.inr rfl)) (hd : (x == ("__debug__" : Str)) = false := by decide) (hcd : (x == ("__classdict__" : Str)) = false := by decide)
    (hbase : attributeBase (.Name x p2) "extend" X.env (eval (.Name x p2) X.env) = eval (.Name x p2) X.env := by rfl)
    (hfew : ((backTo pos (starEach [e] X.env)).all (fun x => !x.1) && (backToKw pos (keywordEach [] X.env)).all (fun x => x.1.isSome)
      && decide (([e] : List Expr).length + ([] : List Keyword).length + (if ([] : List Keyword).isEmpty then 0 else 1) < 30)) = true := by rfl)
    (hline : (apos.endLine == pos.line) = true := by rfl) (hs : starEach [e] X.env = (false, eval e X.env) :: starEach [] X.env := by rfl) (hplain : (backTo pos (starEach [] X.env)).any (·.1) = false := by rfl) :
    DE X g W (.Call (.Attribute (.Name x p2) "extend" apos) [e] [] pos) (mMeth i fExtend ma) := by
  refine ⟨PE.imp (pe_bm PySem.F.plainAttrs_list PySem.F.slot_list_extend PySem.F.type_list_extend mt_extend (pe_var (i := i) hN hv hd hcd) ha.pa hbase hfew hline hs hplain) fun σ H Q h => ?_⟩
  obtain ⟨a, hv, ⟨lv0, h0⟩, τ, S0, A, hq⟩ := meth_okA h
  refine ⟨_, hv, tyL h0, τ, S0, A, hq.mono fun τ1 rs H1 S1 A1 _ q vs rvs => ?_⟩
  obtain ⟨S, lv, xs, ds, r, ys, h1, le, rl, ra, hf, q⟩ := q vs rvs
  unfold fExtend at hf
  split at hf
  · split at hf
    · rename_i hl
      cases hf
      cases ra with
      | cons rd rn =>
        cases rn
        cases rd with
        | lst hb rb => exact ⟨a, _, lv, _, rfl, rfl, h1, le _ _ hb, by rw [rl.length, rb.length]; exact Nat.le_trans hl bigN_le, q _ _ (rl.append rb) .non⟩
    · cases hf
  · cases hf
end
def zipD (ds : List D) (τ : DS) : Res (List D) := match ds with
  | [.lst a, .lst b] => .ok ((a.zip b).map fun p => .tup [p.1, p.2]) τ
  | [.tup a, .tup b] => .ok ((a.zip b).map fun p => .tup [p.1, p.2]) τ
  | _ => .stuck
def enumL : Nat → List D → List D
  | _, [] => []
  | n, d :: ds => .tup [.int (n : Nat), d] :: enumL (n + 1) ds
theorem enumL_get : ∀ {ds : List D} {n i : Nat} {d : D}, (enumL n ds)[i]? = some d → ∃ x, ds[i]? = some x ∧ d = .tup [.int ((n + i : Nat) : Int), x]
  | [], _, _, _, h => by simp [enumL] at h
  | x :: ds, n, 0, d, h => by simp [enumL] at h; exact ⟨x, rfl, by rw [← h]; rfl⟩
  | x :: ds, n, i + 1, d, h => by
    unfold enumL at h
    rw [List.getElem?_cons_succ] at h
    obtain ⟨y, h1, h2⟩ := enumL_get h
    exact ⟨y, h1, by rw [h2, show n + 1 + i = n + (i + 1) by omega]⟩
section
variable {X : Cx} {g : Gm} {W : WX} {e e2 : Expr} {ma : DS → Res (List RV)} {pos p tpos : Pos} {elts : List Expr} {kk : Nat}
theorem itok_pairs {K : PySem.W.Frag} {J : It} {S1 : Hp} {items : List (D × D)} (go : ∀ i H S, Same S1 S → Same S H → ∀ p, items[i]? = some p → J.go i H ∧ ∀ x H', J.yld i H x H' → ∃ T u v, x = .ref T ∧ H T = none ∧ H' = upd H T (.tup [u, v]) ∧ Rep g K S u p.1 ∧ Rep g K S v p.2)
    (stop : ∀ i H S, Same S1 S → Same S H → items.length ≤ i → J.stop i H) : ItOk g K J S1 (items.map fun p => .tup [p.1, p.2]) := by
  intro i H S s1 s2
  refine ⟨fun d e => ?_, fun hl => stop i H S s1 s2 (by simpa using hl)⟩
  rw [List.getElem?_map] at e
  cases q : items[i]? with
  | none => rw [q] at e; cases e
  | some pr =>
    rw [q] at e
    cases e
    obtain ⟨g1, g2⟩ := go i H S s1 s2 pr q
    refine ⟨g1, fun x H' y => ?_⟩
    obtain ⟨T, u, v, rfl, hT, rfl, r1, r2⟩ := g2 x H' y
    have nT : S T = none := Same.of_le s2 hT
    have sm : Same S (upd S T (.tup [u, v])) := Same.upd_new nT
    refine ⟨upd S T (.tup [u, v]), sm, fun b o e => ?_, Same.upd_new hT, .tup (SqT.of upd_same) (.cons (r1.mono sm) (.cons (r2.mono sm) .nil)), fun a n hn => ?_⟩
    · by_cases hb : b = T
      · subst hb; rw [upd_same] at e ⊢; exact e
      · rw [upd_ne hb] at e ⊢; exact s2 _ _ e
    · have ne : a ≠ T := fun z => hn (by rw [z]; exact hT)
      rw [upd_ne ne]; exact n
theorem zip_get {α β : Type} {as : List α} {bs : List β} {i : Nat} {p : α × β} (h : (as.zip bs)[i]? = some p) : as[i]? = some p.1 ∧ bs[i]? = some p.2 := by
  rw [List.getElem?_zip_eq_some] at h
  exact h
theorem di_zip (hg : Gl X "zip") (hm : X.mg "zip" = none) (ha : DA X g W [e, e2] ma) (hs : starEach [e, e2] X.env = (false, eval e X.env) :: starEach [e2] X.env := by rfl) (hpl : (backTo pos (starEach [e2] X.env)).any (·.1) = false := by rfl) :
    DI X g W (.Tuple elts kk tpos) (.Call (.Name "zip" p) [e, e2] [] pos) (mFast ma zipD) := by
  refine ⟨PI.imp (RZ.pi_zipA hg hm ha.pa hs hpl) fun σ H R h => (LI.fast h).mono fun vs H1 ⟨τ0, S0, τ, S, ds, A, ex, rl, h1⟩ => ?_⟩
  unfold zipD at h1
  split at h1
  · rename_i da db
    cases rl with
    | cons ra rl =>
      cases rl with
      | cons rb rl =>
        cases rl
        cases ra with
        | @lst a va _ ha ra =>
          cases rb with
          | @lst b vb _ hb rb =>
            refine ⟨a, b, va, vb, rfl, .inl ⟨SqL.of (A.le _ _ ha), SqL.of (A.le _ _ hb), FinP.here A h1 _ (itok_pairs (fun i H S' s1 s2 pr q => ?_) fun i H S' s1 s2 hl => ?_)⟩⟩
            · obtain ⟨q1, q2⟩ := zip_get q
              obtain ⟨v1, z1, r1⟩ := ra.get q1
              obtain ⟨v2, z2, r2⟩ := rb.get q2
              have h1' : SqL X.K H a va := SqL.of (s2 _ _ (s1 _ _ ha))
              have h2' : SqL X.K H b vb := SqL.of (s2 _ _ (s1 _ _ hb))
              refine ⟨⟨va, vb, v1, v2, h1', h2', z1, z2⟩, fun x H' y => ?_⟩
              obtain ⟨T, u, v, rfl, hT, rfl, y1, y2⟩ := y
              have e1 := y1 _ h1'
              have e2 := y2 _ h2'
              rw [z1] at e1; cases e1
              rw [z2] at e2; cases e2
              exact ⟨T, _, _, rfl, hT, rfl, r1.mono s1, r2.mono s1⟩
            · refine ⟨va, vb, SqL.of (s2 _ _ (s1 _ _ ha)), SqL.of (s2 _ _ (s1 _ _ hb)), ?_⟩
              rw [ra.length, rb.length]
              rw [List.length_zip] at hl
              omega
  · rename_i da db
    cases rl with
    | cons ra rl =>
      cases rl with
      | cons rb rl =>
        cases rl
        cases ra with
        | @tup a va _ ha ra =>
          cases rb with
          | @tup b vb _ hb rb =>
            refine ⟨a, b, va, vb, rfl, .inr ⟨Same.seqT A.le ha, Same.seqT A.le hb, FinP.here A h1 _ (itok_pairs (fun i H S' s1 s2 pr q => ?_) fun i H S' s1 s2 hl => ?_)⟩⟩
            · obtain ⟨q1, q2⟩ := zip_get q
              obtain ⟨v1, z1, r1⟩ := ra.get q1
              obtain ⟨v2, z2, r2⟩ := rb.get q2
              have h1' : SqT X.K H a va := Same.seqT s2 (Same.seqT s1 ha)
              have h2' : SqT X.K H b vb := Same.seqT s2 (Same.seqT s1 hb)
              refine ⟨⟨va, vb, v1, v2, h1', h2', z1, z2⟩, fun x H' y => ?_⟩
              obtain ⟨T, u, v, rfl, hT, rfl, y1, y2⟩ := y
              have e1 := y1 _ h1'
              have e2 := y2 _ h2'
              rw [z1] at e1; cases e1
              rw [z2] at e2; cases e2
              exact ⟨T, _, _, rfl, hT, rfl, r1.mono s1, r2.mono s1⟩
            · refine ⟨va, vb, Same.seqT s2 (Same.seqT s1 ha), Same.seqT s2 (Same.seqT s1 hb), ?_⟩
              rw [ra.length, rb.length]
              rw [List.length_zip] at hl
              omega
  · exact h1.elim
end
section
variable {prog : Program} {w : World} {A : Around} {E : Value → Shared → Prop} {s : Shared}
theorem extend_rev {R : Result → Shared → Prop} {it l : Addr} {items : Array Value} (hh : A.handled = none) (hit : s.heap.IsRevIter it l ((items.size : Int) - 1)) (hl : s.heap.IsList l items) (hne : l ≠ it) (hn : items.size ≤ sizeLine) (S : Addr) (res : Value) (c₀ : Nat)
    (hS : s.heap.get? S = some { cls := .type "list", data := .seq #[] c₀ }) (hSi : S ≠ it) (hSl : S ≠ l)
    (hR : ∀ h' tk acc' c', (∀ b o, b ≠ S → b ≠ it → s.heap.get? b = some o → h'.get? b = some o) → h'.get? S = some { cls := .type "list", dict := none, data := .seq acc' c', slots := #[] } →
      ItemsOf (fun i v => items[items.size - 1 - i]? = some v) acc' items.size → R (.ok (.ret res)) { s with heap := h', toks := tk }) :
    wpAny (model prog w) A.in1 (Builtin.List.listExtendWith (.ref S) (.ref it) res)
      (fun fin s' => match fin with | .done f => R (.ok f) s' | .again c' => c'.quiet = true ∧ codeAny (model prog w) A c' R s') (fun e s' => R (.error e) s') s := by
  have W := (Walks.listRev (prog := prog) (w := w) (A := A.in1) hh it l hne items).toS
  have hSf : S ∉ [it, l] := by simp only [List.mem_cons, List.not_mem_nil, or_false, not_or]; exact ⟨hSi, hSl⟩
  have hT : s.TypeIs (.ref it) "list_reverseiterator" := Heap.IsRevIter.typeIs hit
  have h1 : Builtin.List.listSameRef (.ref S) (.ref it) = false := by simp [Builtin.List.listSameRef, hSi]
  unfold Builtin.List.listExtendWith
  refine wpAny_bind (wpAny_typeOf hT ?_)
  rw [if_neg (by rw [h1]; decide)]
  refine wpAny_bind (wpAny_pyIter_revIter hit ?_)
  refine wpAny_bind (wpAny_holding ?_)
  unfold Builtin.List.listLengthHint
  refine wpAny_bind (wpAny_specialOf hT RT.nolen_lri ?_)
  show wpAny _ A.in1 (specialOf (Value.ref it) (Str.ofString "__length_hint__") >>= _) _ _ _
  refine wpAny_bind (wpAny_specialOf hT RT.hint_lri ?_)
  generalize hid : ("list_reverseiterator.__length_hint__" : String) = id0
  wp_delta
  rw [show splitId id0 = some ("list_reverseiterator", "__length_hint__") from by subst hid; decide +kernel]
  subst hid
  refine wpAny_bind (wpAny_isInstance (b := true) hT (by rw [isSubtype_type]; kernel_rfl) ?_)
  refine wpAny_pure ?_
  rw [if_neg (by decide)]
  have e0 : ((items.size : Nat) : Int) - 1 - ((0 : Nat) : Int) = (items.size : Int) - 1 := by omega
  refine wpAny_pure ⟨plainId_quiet F.plain_extend_loop _, codeAny_extend_loopS W hn _ hSf _ items.size 0 _ _ _ rfl (Nat.zero_le _) ⟨Nat.zero_le _, by rw [e0]; exact hit, hl⟩ hS (ItemsOf.nil _) fun s' acc' c' hm hS' hacc => ?_⟩
  rw [Moved.eq_with hm]
  refine hR s'.heap s'.toks acc' c' (fun b o hb hb2 e => hm.heap b o (fun hmem => ?_) e) hS' hacc
  rcases List.mem_cons.mp hmem with e' | hmem
  · exact hb e'
  · exact hb2 (List.mem_singleton.mp hmem)
theorem init_rev {R : Result → Shared → Prop} {it l : Addr} {items : Array Value} (hh : A.handled = none) (hit : s.heap.IsRevIter it l ((items.size : Int) - 1)) (hl : s.heap.IsList l items) (hne : l ≠ it) (hn : items.size ≤ sizeLine) (S : Addr)
    (hS : s.heap.get? S = some { cls := .type "list", data := .seq #[] }) (hSi : S ≠ it) (hSl : S ≠ l)
    (hR : ∀ h' tk acc' c', (∀ b o, b ≠ S → b ≠ it → s.heap.get? b = some o → h'.get? b = some o) → h'.get? S = some { cls := .type "list", dict := none, data := .seq acc' c', slots := #[] } →
      ItemsOf (fun i v => items[items.size - 1 - i]? = some v) acc' items.size → R (.ok (.ret .none)) { s with heap := h', toks := tk }) :
    wpAny (model prog w) A.in1 (Builtin.«list.__init__» ⟨[.ref S, .ref it], []⟩)
      (fun fin s' => match fin with | .done f => R (.ok f) s' | .again c' => c'.quiet = true ∧ codeAny (model prog w) A c' R s') (fun e s' => R (.error e) s') s := by
  show wpAny _ _ (do let old ← Builtin.List.listItems (.ref S); Builtin.List.listUpdate (.ref S) (fun _ => #[]); letGo old.toList.reverse; Builtin.List.listExtendWith (.ref S) (.ref it) .none) _ _ s
  refine wpAny_bind ?_
  unfold Builtin.List.listItems
  refine wpAny_bind (wpAny_seqItems hS rfl (wpAny_pure ?_))
  show wpAny _ _ (updateSeq S (fun _ => #[]) >>= fun _ => letGo (#[] : Array Value).toList.reverse >>= fun _ => Builtin.List.listExtendWith (.ref S) (.ref it) .none) _ _ s
  refine wpAny_bind (wpAny_updateSeq hS rfl ?_)
  have hS₂ := Heap.get?_update_self (Obj.mapSeq (fun _ => (#[] : Array Value))) hS rfl
  have oth : ∀ b o, b ≠ S → s.heap.get? b = some o → (s.heap.update S (Obj.mapSeq (fun _ => (#[] : Array Value)))).get? b = some o :=
    fun b o hb e => (Heap.get?_update_other _ _ (Ne.symm hb)).trans e
  refine wpAny_bind (wpAny_letGo ?_)
  have hl2 : (s.heap.update S (Obj.mapSeq (fun _ => (#[] : Array Value)))).IsList l items := by
    obtain ⟨o, ho, hc, n, hd⟩ := hl
    exact ⟨o, oth l o (Ne.symm hSl) ho, hc, n, hd⟩
  refine extend_rev (s := { s with heap := s.heap.update S (Obj.mapSeq (fun _ => (#[] : Array Value))) }) hh (hit.at fun o e => oth _ _ (Ne.symm hSi) e) hl2 hne hn S .none _ hS₂ hSi hSl fun h' tk acc' c' hk hS' hacc => ?_
  exact hR h' tk acc' c' (fun b o h1 h2 e => hk b o h1 h2 (oth b o h1 e)) hS' hacc
theorem call_list_rev {it l : Addr} {items : Array Value} {Q : Value → Shared → Prop} (hh : A.handled = none) (hit : s.heap.IsRevIter it l ((items.size : Int) - 1)) (hl : s.heap.IsList l items) (hne : l ≠ it) (hn : items.size ≤ sizeLine)
    (hQ : ∀ h' tk acc' c', (∀ b o, b ≠ it → s.heap.get? b = some o → h'.get? b = some o) → h'.get? s.heap.objs.size = some { cls := .type "list", dict := none, data := .seq acc' c', slots := #[] } →
      ItemsOf (fun i v => items[items.size - 1 - i]? = some v) acc' items.size → Q (.ref s.heap.objs.size) { s with heap := h', toks := tk }) :
    wpAny (model prog w) A (call (.type "list") [.ref it]) Q E s := by
  obtain ⟨oi, hoi, _⟩ := id hit
  obtain ⟨ol, hol, _⟩ := id hl
  have hSi : s.heap.objs.size ≠ it := Nat.ne_of_gt (Heap.lt_size hoi)
  have hSl : s.heap.objs.size ≠ l := Nat.ne_of_gt (Heap.lt_size hol)
  refine callType_codes (Q₁ := fun obj s₁ => obj = .ref s.heap.objs.size ∧ s₁ = { s with heap := s.heap.push { cls := .type "list", data := .seq #[] } }) F.called_list (F.typeCall_list_1 _) F.entry_list_init
    (code_list_new _ ⟨rfl, rfl⟩) fun obj s₁ h₁ => ?_
  obtain ⟨rfl, rfl⟩ := h₁
  have hS : (s.heap.push { cls := .type "list", data := .seq #[] }).get? s.heap.objs.size = some { cls := .type "list", data := .seq #[] } := Heap.get?_push_size _ rfl
  refine ⟨⟨_, hS, rfl⟩, F.args_list_init_2 _ _, init_rev (A := A.in1) (s := { s with heap := s.heap.push { cls := .type "list", data := .seq #[] } }) hh (hit.at fun o e => Heap.get?_push_of_some _ e) (hl.push _) hne hn _ hS hSi hSl fun h' tk acc' c' hk hS' hacc => ?_⟩
  exact ⟨rfl, hQ h' tk acc' c' (fun b o hb e => hk b o (Nat.ne_of_lt (Heap.lt_size e)) hb (Heap.get?_push_of_some _ e)) hS' hacc⟩
end
section
variable {X : Cx} {g : Gm} {W : WX} {e : Expr} {me : DS → Res RV}
def tListRev (K : PySem.W.Frag) (te : TE) : TE := fun σ H Q => te σ H fun v H1 => ∃ (a : Addr) (xs : List V), v = .ref a ∧ SqL K H1 a xs ∧ ∀ q, H1 q = none → Q (.ref q) (upd H1 q (.lst xs.reverse))
theorem pe_listRev {te : TE} {p p2 pos pos2 : Pos} (hc : X.calm = true) (hg : Gl X "list") (hm : X.mg "list" = none) (hg2 : Gl X "reversed") (hm2 : X.mg "reversed" = none) (he : PE X e te)
    (hs : starEach [e] X.env = (false, eval e X.env) :: starEach [] X.env := by rfl)
    (hs2 : starEach [.Call (.Name "reversed" p2) [e] [] pos2] X.env = (false, eval (.Call (.Name "reversed" p2) [e] [] pos2) X.env) :: starEach [] X.env := by rfl) :
    PE X (.Call (.Name "list" p) [.Call (.Name "reversed" p2) [e] [] pos2] [] pos) (tListRev X.K te) := by
  refine ⟨fun pins s σ H Q I h => ?_⟩
  refine Call_ (ld_blt I hg hm boot_list (PyProof.Rows.callWith_type1 (args_cons (Call_ (ld_blt I hg2 hm2 PyProof.Rows.boot_reversed (PyProof.Rows.callWith_type1 (args_cons (thn (he.run pins s σ H _ I h) fun u s1 ⟨v, H1, I1, r1, q1⟩ => args_nil ?_) hs) hs rfl))) hs2) hs2 rfl))
  obtain ⟨a, xs, ev, hq, q⟩ := q1
  subst ev
  obtain rfl : u = Value.ref a := r1
  obtain ⟨its, rv, p', hz⟩ := I1.list hq
  refine call_reversed_list p'.isList (args_nil ?_)
  have k0 : ∀ b o, s1.heap.get? b = some o → (s1.heap.push (revObj a ((its.toArray.size : Int) - 1))).get? b = some o := fun b o e => Heap.get?_push_of_some _ e
  have I2 : Inv X pins σ H1 { s1 with heap := s1.heap.push (revObj a ((its.toArray.size : Int) - 1)) } := I1.kept (t' := s1.toks) k0
  obtain ⟨f0, f1, f2, f3, f4, f5⟩ := I1.fpOk (H' := H1) (b := s1.heap.objs.size) (Nat.le_refl _) (I1.hok.fresh (Nat.le_refl _))
  have hl := p'.isList
  obtain ⟨ol, hol, _⟩ := id hl
  have hne : a ≠ s1.heap.objs.size := Nat.ne_of_lt (Heap.lt_size hol)
  have hn : its.toArray.size ≤ sizeLine := by rw [List.size_toArray, ← rv.length]; exact hz
  refine call_list_rev (s := { s1 with heap := s1.heap.push (revObj a ((its.toArray.size : Int) - 1)) }) (I1.ok.hd hc) ⟨_, Heap.get?_push_size _ rfl, rfl, rfl⟩ (hl.push _) hne hn fun h' tk acc c' hk hS' hi => ?_
  have k1 : ∀ b o, s1.heap.get? b = some o → h'.get? b = some o := fun b o e => hk b o (Nat.ne_of_lt (Heap.lt_size e)) (k0 b o e)
  have hq1 : s1.heap.objs.size ≤ (s1.heap.push (revObj a ((its.toArray.size : Int) - 1))).objs.size := by rw [Heap.size_push]; exact Nat.le_succ _
  refine ⟨.ref _, upd H1 _ (.lst xs.reverse), I1.laid (t' := tk) k1 hq1 (show ObjOk X.prog X.w _ _ _ (.lst xs.reverse) from ⟨by rw [List.length_reverse]; exact hz, acc.toList, c', RT.vals_rev rv hi, ?_⟩), rfl, q _ (I1.hok.fresh hq1)⟩
  rw [Array.toArray_toList]
  exact hS'
def revD (d : D) : Option RV := match d with
  | .lst ds => some (.fr (.lst ds.reverse))
  | .rol ds => some (.fr (.lst ds.reverse))
  | _ => none
theorem de_listRev {p p2 pos pos2 : Pos} (hc : X.calm = true) (hg : Gl X "list") (hm : X.mg "list" = none) (hg2 : Gl X "reversed") (hm2 : X.mg "reversed" = none) (he : DE X g W e me)
    (hs : starEach [e] X.env = (false, eval e X.env) :: starEach [] X.env := by rfl)
    (hs2 : starEach [.Call (.Name "reversed" p2) [e] [] pos2] X.env = (false, eval (.Call (.Name "reversed" p2) [e] [] pos2) X.env) :: starEach [] X.env := by rfl) :
    DE X g W (.Call (.Name "list" p) [.Call (.Name "reversed" p2) [e] [] pos2] [] pos) (mUn revD me) := by
  refine ⟨PE.imp (pe_listRev hc hg hm hg2 hm2 he.pe hs hs2) fun σ H Q h => (one h).mono fun x H1 ⟨τ, S, dx, A, sx, en⟩ => ?_⟩
  unfold revD at en
  split at en
  · obtain ⟨p, vs, rfl, hp, r⟩ := sx.lst A.le
    exact ⟨p, vs, rfl, SqL.of hp, en.lst A r.reverse⟩
  · obtain ⟨p, vs, rfl, hp, r⟩ := sx.rol A.le
    exact ⟨p, vs, rfl, hp, en.lst A r.reverse⟩
  · exact en.elim
end
end DL
set_option maxHeartbeats 1000000
namespace DL
open PySem PySem.Spec PyProof.Rows L2
abbrev Tab := Nat → Option (Nat × (List D → FR))
def mCallV (T : Tab) (mf : DS → Res RV) (ma : DS → Res (List RV)) : DS → Res RV := fun τ => (mf τ).bind fun r τ1 => match r with
  | .dat (.sym n) => (match T n with
    | some (ar, F) => mCall ar F ma τ1
    | none => .stuck)
  | _ => .stuck
def TabOk (X : Cx) (g : Gm) (T : Tab) : Prop := ∀ n ar F, T n = some (ar, F) → ∃ lv fd ps, FnOk X.prog X.w X.K X.mg X.base (L2N.CX X.prog X.w) lv (g n) fd ps (spP g X.K ar F) ∧ Room lv X.A ∧ PySem.W.keepIn X.K (.ref (g n)) = true ∧ Binds X.K fd ps []
section
variable {X : Cx} {g : Gm} {W : WX} {T : Tab} {f e : Expr} {es : List Expr} {mf : DS → Res RV} {ma : DS → Res (List RV)} {pos : Pos}
theorem call_end {K : PySem.W.Frag} {F : List D → FR} {n : Nat} {σ : St} {H : Hp} {Q : VK} (h : LE g K W (mCall n F ma) σ H Q) : LA g K W ma σ H fun vs H1 => spP g K n F vs H1 Q (WE W σ) := by
  refine (LE.fast h).mono fun vs H1 ⟨τ, S, ds, A, al, rl, h1⟩ => ?_
  obtain ⟨hl, h2⟩ := fin_if h1
  refine ⟨S, ds, ⟨A.le, A.tab⟩, rl, hl, ?_⟩
  revert h2
  generalize F ds = r
  intro h2
  cases r with
  | stuck => exact h2.elim
  | err c => exact fun H' S' le x => let ⟨A', e'⟩ := A.back le x; h2 H' S' A' e'
  | ok r =>
    intro v H' S' le x rr
    obtain ⟨A', e'⟩ := A.back le x
    refine h2 H' S' A' e' v ?_
    cases rr with
    | dat r => exact .dat r
    | fr h0 hp n r =>
      refine .fr (al _ h0) hp n (fun z => ?_) r
      obtain ⟨o, z⟩ := A.own_some z
      rw [h0] at z; cases z
theorem de_callV (hT : TabOk X g T) (tk : L2N.Takes X W) (hf : DE X g W f mf) (ha : DA X g W (e :: es) ma) (he : starEach (e :: es) X.env = (false, eval e X.env) :: starEach es X.env := by rfl) (hpl : (backTo pos (starEach es X.env)).any (·.1) = false := by rfl)
    (hcall : ∀ {M : Model} {A : Around} {Q : Value → Shared → Prop} {E : Value → Shared → Prop} {s : Shared}, wpAny M A (eval f X.env) (fun v s' => wpAny M A (callWith pos v [] (backTo pos (starEach (e :: es) X.env)) (backToKw pos (keywordEach [] X.env))) Q E s') E s → wpAny M A (eval (.Call f (e :: es) [] pos) X.env) Q E s := by intros; exact Call_ (by assumption)) :
    DE X g W (.Call f (e :: es) [] pos) (mCallV T mf ma) := by
  refine ⟨⟨fun pins s σ H Q I h => hcall ?_⟩⟩
  have h' : LE g X.K W mf σ H fun x H1 => ∃ n ar F, x = .ref (g n) ∧ T n = some (ar, F) ∧ LA g X.K W ma σ H1 fun vs H2 => spP g X.K ar F vs H2 Q (WE W σ) := by
    refine (LE.bind h).mono fun x H1 ⟨τ1, S1, r, A1, rv, al, h1⟩ => ?_
    cases rv with
    | fr _ _ _ _ _ => exact (show False from h1).elim
    | slot _ => exact (show False from h1).elim
    | dat rd =>
      cases rd with
      | sym n =>
        dsimp only at h1
        cases q : T n with
        | none => rw [q] at h1; exact h1.elim
        | some p =>
          obtain ⟨ar, F⟩ := p
          rw [q] at h1
          exact ⟨n, ar, F, rfl, q, call_end (LE.of_fin A1 al h1)⟩
      | _ => exact (show False from h1).elim
  refine thn (hf.pe.run pins s σ H _ I h') fun v s1 ⟨x, H1, I1, r1, n, ar, F, ex, hn, q⟩ => ?_
  subst ex
  obtain rfl : v = Value.ref (g n) := r1
  obtain ⟨lv, fd, ps, G, hr, hk, hb⟩ := hT n ar F hn
  refine PySem.W.callWith_K (h₀ := X.base) I.ok.mod.kin hk (thn (ha.pa.run pos pins s1 σ H1 _ I1 q) fun us s2 ⟨vs, H2, I2, r, q2⟩ => ⟨I2.kIn, ?_⟩) he hpl
  exact run_fnS G hr hb (L2N.passAt tk σ) I2 r q2
end
def mTry (i : Nat) (cs : Nat → Option Bool) (mb : DS → SRes) (ms : Nat → DS → Res RV) : DS → SRes := fun τ => match mb τ with
  | .err c τ1 => (match cs c with
    | some true => if i < τ1.length then (match ms c (τ1.set i .emp) with
      | .ok r τ2 => retR r τ2
      | _ => .stuck) else .stuck
    | some false => .err c τ1
    | none => .stuck)
  | r => r
section
variable {X : Cx} {g : Gm} {W : WX} {k : Nat → Bool} {x n : Str} {cv : Value} {i : Nat} {body suite : List Stmt} {b₀ : Stmt} {np pos pos' : Pos} {mb : DS → SRes} {ms : Nat → DS → Res RV} {cs : Nat → Option Bool}
theorem Abs.setEmp {K : PySem.W.Frag} {σ : St} {τ : DS} {H S : Hp} (A : Abs g K σ H τ S) (i : Nat) (o : Option V) : Abs g K (σ.set i o) H (τ.set i .emp) S ∧ Ext σ τ H S (σ.set i o) (τ.set i .emp) H S := by
  have get : ∀ {j : Nat} {y : SV}, y ≠ .emp → (τ.set i SV.emp)[j]? = some y → τ[j]? = some y ∧ (σ.set i o)[j]? = σ[j]? := fun {j y} hy e => by
    rcases set_get e with ⟨_, z⟩ | ⟨hj, z⟩
    · exact absurd z.symm hy
    · exact ⟨z, List.getElem?_set_ne hj⟩
  refine ⟨⟨A.le, by simpa using A.len, fun j d e => ?_, fun j c e => ?_, fun j l c c' e1 e2 e3 => ?_, A.tab⟩, Same.refl _, fun _ _ h _ n _ => ⟨h, n⟩, fun a ⟨j, c, e1, e2⟩ => .inl ?_, fun _ h => h⟩
  · obtain ⟨z, q⟩ := get (by simp) e
    rw [q]; exact A.dat j d z
  · obtain ⟨z, q⟩ := get (by simp) e
    rw [q]; exact A.own j c z
  · obtain ⟨z1, q1⟩ := get (by simp) e1
    obtain ⟨z2, q2⟩ := get (by simp) e2
    rw [q1, q2] at e3
    exact A.inj j l c c' z1 z2 e3
  · obtain ⟨z, q⟩ := get (by simp) e1
    rw [q] at e2
    exact ⟨j, c, z, e2⟩
def LSu (g : Gm) (K : PySem.W.Frag) (k : Nat → Bool) (i : Nat) (a : Addr) (m : DS → Res RV) : TS := fun D σ H => σ[i]? = some (some (.ref a)) ∧ LS g K WF k (fun τ => (match m τ with
  | .ok r τ2 => retR r τ2
  | _ => .stuck)) D σ H
theorem takesF {X : Cx} : L2N.Takes X (fun _ _ _ _ => False) := fun _ _ z => by
  obtain ⟨_, _, _, _, _, _, _, _, _, _, _, _, _, _, _, _, z⟩ := z
  exact z.elim
theorem ds_try (hs : X.stack = X.env :: X.outer) (hf : X.env.frame = some X.env.locals) (hN : X.N.Nodup) (hc : Names X x cv) (tk : L2N.Takes X W) (hcs : ∀ c b, cs c = some b → PySem.W.exmOne X.K (.ref (g c)) cv = some b)
    (hb : ∀ (W : WX) (pn : List (Addr × Obj)) (xe : Value → Shared → Prop), L2N.Takes (X.tr pn xe) W → PassesOwn (model X.prog X.w) X.A X.env xe → DSs (X.tr pn xe) g W k body mb)
    (hsu : ∀ (c : Nat) (a : Addr) (oe : Obj) (pn : List (Addr × Obj)), cs c = some true → L2N.Zn (.ref (g c)) none oe → (∃ vs, oe.data = .fields vs) → PSs (X.suite a ((a, oe) :: pn)) (b₀ :: suite) (LSu g X.K k i a (ms c)))
    (hk : k i = false := by rfl) (hi : X.N[i]? = some n := by rfl) (hln : X.env.kindOf n = some .local := by rfl) :
    DSt X g W k (.Try body [.ExceptHandler (some (.Name x np)) (some n) (b₀ :: suite) pos'] [] [] pos) (mTry i cs mb ms) := by
  refine ⟨PS.imp (L2N.ps_try_as (tb := fun W => LS g X.K W k mb) (ts := fun a cls d D σ H => ∃ c, cls = Value.ref (g c) ∧ d = none ∧ cs c = some true ∧ LSu g X.K k i a (ms c) D σ H) hs hf hN hi hln hc tk (fun W' pn xe tk' po => (hb W' pn xe tk' po).ps)
    (fun a oe cls d pn hz hfv => ⟨fun pins s σ H D I ⟨c, e1, e2, e3, h⟩ => ?_⟩)) fun D σ H ⟨τ, S, A, h⟩ => ⟨τ, S, A, ?_⟩⟩
  · subst e1 e2
    exact (hsu c a oe pn e3 hz hfv).run pins s σ H D I h
  · unfold mTry at h
    revert h
    generalize mb τ = r
    intro h
    cases r with
    | nx τ' => exact h
    | bk τ' => exact h
    | ct τ' => exact h
    | rt r τ' => exact h
    | stuck => exact h
    | err c τ1 =>
      intro σ' H' S' A' e' p'
      dsimp only at h
      cases q : cs c with
      | none => rw [q] at h; exact h.elim
      | some b =>
        rw [q] at h
        refine ⟨b, hcs c b q, fun hb a ha => ?_, fun hb => ?_⟩
        · subst hb
          dsimp only at h
          by_cases hl : i < τ1.length
          · rw [if_pos hl] at h
            obtain ⟨A2, e2⟩ := A'.setEmp i (some (.ref a))
            refine ⟨c, rfl, rfl, q, List.getElem?_set_self (by rw [A'.len]; exact hl), τ1.set i .emp, S', A2, ?_⟩
            have h2 := FinS.ext h (e'.trans e2) (p'.trans (Pr.set hk))
            show FinS g X.K WF k _ _ _ _ (match ms c (τ1.set i .emp) with
              | .ok r τ2 => retR r τ2
              | _ => .stuck) _
            revert h2
            generalize ms c (τ1.set i .emp) = r
            intro h2
            cases r with
            | err _ _ => exact h2.elim
            | stuck => exact h2.elim
            | ok r τ2 =>
              dsimp only at h2 ⊢
              revert h2
              unfold retR
              cases r with
              | dat d => exact fun h => h
              | fr c => exact fun h => h
              | slot j =>
                dsimp only
                generalize τ2[j]? = q
                cases q with
                | none => exact fun h => h
                | some sv => cases sv <;> exact fun h => h
          · rw [if_neg hl] at h; exact h.elim
        · subst hb
          exact h σ' H' S' A' e' p'
end
end DL
set_option maxHeartbeats 1000000
namespace DL
open PySem PySem.Spec PyProof.Rows L2
def spEnd (K : PySem.W.Frag) (T : List (Addr × Str)) : Sp := fun vs H Q _ => ∃ (a : Addr) (ns : List Int), vs = [.ref a] ∧ SqL K H a (ns.map V.int) ∧ ns.length ≤ 63 ∧ (∀ z ∈ ns, Builtin.Int.intBits z ≤ 1048576) ∧ (∀ p ∈ T, H p.1 = some (.tbl #[])) ∧ ∀ H', Q (.bl true) H'
theorem repl_ints {g : Gm} {K : PySem.W.Frag} {S : Hp} : ∀ ns : List Int, RepL g K S (ns.map V.int) (ns.map D.int)
  | [] => .nil
  | n :: ns => .cons (.int n) (repl_ints ns)
def offT (T : List (Addr × Str)) (H : Hp) : Hp := fun b => if b ∈ T.map (·.1) then none else H b
theorem offT_same {T : List (Addr × Str)} {H : Hp} : Same (offT T H) H := fun b o h => by
  unfold offT at h
  split at h
  · cases h
  · exact h
theorem offT_none {T : List (Addr × Str)} {H : Hp} {p : Addr × Str} (hp : p ∈ T) : offT T H p.1 = none := if_pos (List.mem_map_of_mem hp)
theorem offT_sq {K : PySem.W.Frag} {T : List (Addr × Str)} {H : Hp} {a : Addr} {xs : List V} (hT : ∀ p ∈ T, H p.1 = some (.tbl #[])) (h : SqL K H a xs) : SqL K (offT T H) a xs := by
  rcases h with (h | ⟨o, h⟩) | h
  · refine .inl (.inl ?_)
    unfold offT
    rw [if_neg fun hm => ?_, h]
    obtain ⟨p, hp, rfl⟩ := List.mem_map.mp hm
    rw [hT p hp] at h
    cases h
  · refine .inl (.inr ⟨o, ?_⟩)
    unfold offT
    rw [if_neg fun hm => ?_, h]
    obtain ⟨p, hp, rfl⟩ := List.mem_map.mp hm
    rw [hT p hp] at h
    cases h
  · exact .inr h
section
variable {P : Program} {w : World} {K : PySem.W.Frag} {mg : Str → Option Value} {base : Heap} {g : Gm}
theorem law_of {lv : Nat} {f : Addr} {fd : FuncData} {F : List D → FR} {x : Str} (h : FnOk P w K mg base (L2N.CX P w) lv f fd [x] (spP g K 1 F))
    (hF : ∀ ns : List Int, ns.length ≤ 63 → F [.rol (ns.map D.int)] = .ok (.dat (.bl true))) : FnOk P w K mg base (L2N.CX P w) lv f fd [x] (spEnd K g.tabs) := by
  refine h.imp fun vs H Q E ⟨a, ns, ev, hs, hl, _, hT, q⟩ => ?_
  subst ev
  refine ⟨offT g.tabs H, [.rol (ns.map D.int)], ⟨offT_same, fun p hp => ⟨offT_none hp, #[], hT p hp, trivial, fun _ _ h => by cases h⟩⟩, .cons (.rol (offT_sq hT hs) (repl_ints ns)) .nil, rfl, ?_⟩
  rw [hF ns hl]
  intro v H' S' le x r
  cases r with
  | dat r => cases r; exact q H'
end
theorem kit_refl {K : PySem.W.Frag} {v : Value} : PySem.W.kitOne K v v = some true := by
  unfold PySem.W.kitOne
  rw [if_pos (by simp)]
theorem kit_ref {K : PySem.W.Frag} {A C : Addr} {b : Bool} (ne : (A == C) = false) (h2 : PySem.W.isClsIn K C = true) (h3 : PySem.W.typeIn K (.ref C) = some (.type "type")) (h4 : PySem.W.subIn K (.ref A) (.ref C) = some b) : PySem.W.kitOne K (.ref A) (.ref C) = some b := by
  unfold PySem.W.kitOne
  rw [if_neg (by intro z; have z2 : A = C := by simpa using z
                 rw [z2] at ne; simp at ne)]
  have h2' : (PySem.W.clsIn K C).isSome = true := h2
  have e2 : ((PySem.W.clsIn K C).isSome && PySem.W.typeIn K (.ref C) == some (.type "type")) = true := by rw [h2', h3] <;> rfl
  show (if ((PySem.W.clsIn K C).isSome && PySem.W.typeIn K (.ref C) == some (.type "type")) = true then PySem.W.subIn K (.ref A) (.ref C) else none) = some b
  rw [if_pos e2]
  exact h4
theorem exm_own {K : PySem.W.Frag} {A C : Addr} {b : Bool} (h1 : PySem.W.subIn K (.ref C) (.type "BaseException") = some true) (h2 : PySem.W.isClsIn K C = true) (h3 : PySem.W.typeIn K (.ref C) = some (.type "type")) (h4 : PySem.W.subIn K (.ref A) (.ref C) = some b) :
    PySem.W.exmOne K (.ref A) (.ref C) = some b := by
  have e1 : (PySem.W.subIn K (.ref C) (.type "BaseException") == some true) = true := by rw [h1] <;> rfl
  have e2 : ((PySem.W.clsIn K C).isSome && PySem.W.typeIn K (.ref C) == some (.type "type")) = true := by
    have h2' : (PySem.W.clsIn K C).isSome = true := h2
    rw [h2', h3] <;> rfl
  show (if (PySem.W.subIn K (.ref C) (.type "BaseException") == some true) = true then (if ((PySem.W.clsIn K C).isSome && PySem.W.typeIn K (.ref C) == some (.type "type")) = true then PySem.W.subIn K (.ref A) (.ref C) else none) else none) = some b
  rw [if_pos e1, if_pos e2]
  exact h4
theorem end_walkT {l : PySem.W.OpenLaw} {k : Nat} {q : Program} {loose : List Str} {XP : (Str → Option Value) → Heap → Prop} {YP : World → Heap → Prop} {d : DefRec} {K : Params → PySem.W.Frag}
    (hn : l.most = some 63) (hdf : d.params.defaults = []) (hr : Room k callerA)
    (hY : ∀ (w : World) (h : Heap), YP w h → (K w.params).In h)
    (F : ∀ (w : World) (mg : Str → Option Value) (fa : Addr) (h : Heap), YP w h → (K w.params).In h → h.Ns mainGlobals mg → mg d.name = some (.ref fa) →
      ∃ (fd : FuncData) (cs : List (Addr × Addr)) (T : List (Addr × Str)), (∀ p ∈ cs, h.get? p.2 = some { cls := .none, data := .fields #[] }) ∧ (∀ p ∈ cs, (K w.params).lookup p.2 = none) ∧ (∀ p ∈ cs, PySem.W.CodeHd h p.1 p.2) ∧ (∀ (s : Shared) (u : Value), BindsTo s fd ⟨[u], []⟩ [("script", u)]) ∧
        (∀ p ∈ T, ∃ c ∈ cs, c.2 = p.1) ∧
        ∀ base : Heap, (K w.params).In base → base.Ns mainGlobals mg → (∀ p ∈ cs, LamX.TabB base mg p.1 p.2) → FnOk l.prog w (K w.params) mg base (L2N.CX l.prog w) k fa fd ["script"] (spEnd (K w.params) T)) :
    PySem.W.WalkO q loose XP YP l.row.toRowW d [] (fun f vs => PySem.call f vs) :=
  LamX.walk_ofTs (n := 63) (CX := fun w => L2N.CX l.prog w) hn (by decide) hdf hr hY (fun w mg fa h hy hk hg hm => by
    obtain ⟨fd, cs, T, h1, h2, h3, h4, h5, h6⟩ := F w mg fa h hy hk hg hm
    refine ⟨fd, cs, spEnd (K w.params) T, h1, h2, h3, h4, fun H a ns hl hb hT hS => ⟨a, ns, rfl, hS, hl, hb, fun p hp => ?_, fun _ => rfl⟩, h6⟩
    obtain ⟨c, hc, e⟩ := h5 p hp
    rw [← e]
    exact hT c hc) fun w H s e s' z => by
    obtain ⟨_, _, _, _, _, _, _, _, _, _, _, _, _, _, _, _, z⟩ := z
end DL
set_option maxHeartbeats 1000000
namespace DL
open PySem
section
variable {α β : Type} {a : α} {τ τ1 τ2 : DS} {f : α → DS → Res β} {fs : α → DS → SRes} {c : Nat}
theorem v_bok : (Res.ok a τ).bind f = f a τ := (rfl)
theorem v_berr : (Res.err c τ : Res α).bind f = .err c τ := (rfl)
theorem v_sok : (Res.ok a τ).toS fs = fs a τ := (rfl)
theorem v_serr : (Res.err c τ : Res α).toS fs = .err c τ := (rfl)
theorem v_nx {g : DS → SRes} : (SRes.nx τ).then g = g τ := (rfl)
theorem v_rt {r : RV} {g : DS → SRes} : (SRes.rt r τ).then g = .rt r τ := (rfl)
theorem v_bk {g : DS → SRes} : (SRes.bk τ).then g = .bk τ := (rfl)
theorem v_ct {g : DS → SRes} : (SRes.ct τ).then g = .ct τ := (rfl)
theorem v_er {g : DS → SRes} : (SRes.err c τ).then g = .err c τ := (rfl)
theorem v_ofs : ofO (some a) τ = .ok a τ := (rfl)
variable {ma mb mc me : DS → Res RV} {tc t u : DS → Res Bool} {op : D → D → Option RV} {o1 : D → Option RV} {x y z : RV} {d d1 d2 : D} {i j n : Nat} {cn : Cn} {ms ml : DS → Res (List RV)} {rs : List RV} {ds es : List D}
def vSlot (i : Nat) (τ : DS) : Option SV → Res RV
  | some (.dat d) => .ok (.dat d) τ
  | some (.own _) => .ok (.slot i) τ
  | _ => .stuck
theorem v_var : mVar i τ = vSlot i τ τ[i]? := by
  unfold mVar vSlot
  first | rfl | (split <;> rfl) | (split <;> simp_all)
theorem v_slot_dat : vSlot i τ (some (.dat d)) = .ok (.dat d) τ := (rfl)
theorem v_slot_own : vSlot i τ (some (.own cn)) = .ok (.slot i) τ := (rfl)
theorem v_c : mC d τ = .ok (.dat d) τ := (rfl)
def kBin (op : D → D → Option RV) (mb : DS → Res RV) (x : RV) (τ : DS) : Res RV := (mb τ).bind fun y τ2 => op2 op x y τ2
theorem v_bin : mBin op ma mb τ = (ma τ).bind (kBin op mb) := (rfl)
theorem v_kbin : kBin op mb x τ = (mb τ).bind (op2 op x) := (rfl)
def pk2 (op : D → D → Option RV) : Option D → Option D → Option RV
  | some a, some b => op a b
  | _, _ => none
theorem v_op2 : op2 op x y τ = ofO (pk2 op (peek x τ) (peek y τ)) τ := by
  unfold op2 pk2
  cases peek x τ <;> cases peek y τ <;> rfl
theorem v_pk2 : pk2 op (some d1) (some d2) = op d1 d2 := (rfl)
theorem v_un : mUn o1 ma τ = (ma τ).bind (op1 o1) := (rfl)
def pk1 (o1 : D → Option RV) : Option D → Option RV
  | some a => o1 a
  | none => none
theorem v_op1 : op1 o1 x τ = ofO (pk1 o1 (peek x τ)) τ := by
  unfold op1 pk1
  cases peek x τ <;> rfl
theorem v_pk1 : pk1 o1 (some d) = o1 d := (rfl)
theorem v_peek_dat : peek (.dat d) τ = some d := (rfl)
theorem v_peek_fr : peek (.fr cn) τ = some cn.d := (rfl)
def pSlot : Option SV → Option D
  | some (.own c) => some c.d
  | some (.dat d) => some d
  | _ => none
theorem v_peek_slot : peek (.slot i) τ = pSlot τ[i]? := by
  unfold peek pSlot
  first | rfl | (split <;> simp_all) | (split <;> rfl)
theorem v_pslot_own : pSlot (some (.own cn)) = some cn.d := (rfl)
theorem v_pslot_dat : pSlot (some (.dat d)) = some d := (rfl)
theorem v_cnl {l : List D} : (Cn.lst l).d = .lst l := (rfl)
def kTest (r : RV) (τ : DS) : Res Bool := ofO (asB r) τ
theorem v_test : mTest ma τ = (ma τ).bind kTest := (rfl)
theorem v_ktest {b : Bool} : kTest (.dat (.bl b)) τ = .ok b τ := (rfl)
def kAndT (u : DS → Res Bool) : Bool → DS → Res Bool
  | true, τ => u τ
  | false, τ => .ok false τ
theorem v_andT : mAndT t u τ = (t τ).bind (kAndT u) := by
  unfold mAndT
  cases t τ with
  | ok b τ1 => cases b <;> rfl
  | _ => rfl
theorem v_kand1 : kAndT u true τ = u τ := (rfl)
theorem v_kand0 : kAndT u false τ = .ok false τ := (rfl)
def kOrT (u : DS → Res Bool) : Bool → DS → Res Bool
  | true, τ => .ok true τ
  | false, τ => u τ
theorem v_orT : mOrT t u τ = (t τ).bind (kOrT u) := by
  unfold mOrT
  cases t τ with
  | ok b τ1 => cases b <;> rfl
  | _ => rfl
theorem v_kor1 : kOrT u true τ = .ok true τ := (rfl)
theorem v_kor0 : kOrT u false τ = u τ := (rfl)
def kNotT (b : Bool) (τ : DS) : Res Bool := .ok (!b) τ
theorem v_notT : mNotT t τ = (t τ).bind kNotT := (rfl)
theorem v_knotT {b : Bool} : kNotT b τ = .ok (!b) τ := (rfl)
def kAnd (mb : DS → Res RV) : Bool → DS → Res RV
  | true, τ => mb τ
  | false, τ => .ok (.dat (.bl false)) τ
theorem v_and : mAnd ma mb τ = (mTest ma τ).bind (kAnd mb) := by
  unfold mAnd
  cases mTest ma τ with
  | ok b τ1 => cases b <;> rfl
  | _ => rfl
theorem v_kAnd1 : kAnd mb true τ = mb τ := (rfl)
theorem v_kAnd0 : kAnd mb false τ = .ok (.dat (.bl false)) τ := (rfl)
def kOr (mb : DS → Res RV) : Bool → DS → Res RV
  | true, τ => .ok (.dat (.bl true)) τ
  | false, τ => mb τ
theorem v_or : mOr ma mb τ = (mTest ma τ).bind (kOr mb) := by
  unfold mOr
  cases mTest ma τ with
  | ok b τ1 => cases b <;> rfl
  | _ => rfl
theorem v_kOr1 : kOr mb true τ = .ok (.dat (.bl true)) τ := (rfl)
theorem v_kOr0 : kOr mb false τ = mb τ := (rfl)
def kNot (b : Bool) (τ : DS) : Res RV := .ok (.dat (.bl (!b))) τ
theorem v_not : mNot ma τ = (mTest ma τ).bind kNot := (rfl)
theorem v_knot {b : Bool} : kNot b τ = .ok (.dat (.bl (!b))) τ := (rfl)
def kIf (ma mb : DS → Res RV) : Bool → DS → Res RV
  | true, τ => ma τ
  | false, τ => mb τ
theorem v_if : mIf t ma mb τ = (t τ).bind (kIf ma mb) := by
  unfold mIf
  cases t τ with
  | ok b τ1 => cases b <;> rfl
  | _ => rfl
theorem v_kif1 : kIf ma mb true τ = ma τ := (rfl)
theorem v_kif0 : kIf ma mb false τ = mb τ := (rfl)
def isNoneD (d : D) : Option RV := match d with
  | .non => some (.dat (.bl true))
  | _ => some (.dat (.bl false))
theorem v_isNone : mIsNone ma τ = (ma τ).bind (op1 isNoneD) := (rfl)
theorem v_nil : mNil τ = .ok [] τ := (rfl)
def kCons (mr : DS → Res (List RV)) (r : RV) (τ : DS) : Res (List RV) := (mr τ).bind fun rs τ2 => .ok (r :: rs) τ2
def kCons2 (r : RV) (rs : List RV) (τ : DS) : Res (List RV) := .ok (r :: rs) τ
theorem v_cons : mCons ma ms τ = (ma τ).bind (kCons ms) := (rfl)
theorem v_kcons : kCons ms x τ = (ms τ).bind (kCons2 x) := (rfl)
theorem v_kcons2 : kCons2 x rs τ = .ok (x :: rs) τ := (rfl)
def kFast {α : Type} (f : List D → DS → Res α) (rs : List RV) (τ : DS) : Res α := (forceAll rs τ).bind f
theorem v_fast {α : Type} {f : List D → DS → Res α} : mFast ms f τ = (ms τ).bind (kFast f) := (rfl)
theorem v_kfast {α : Type} {f : List D → DS → Res α} : kFast f rs τ = (forceAll rs τ).bind f := (rfl)
def kAll (rs : List RV) (d : D) (τ : DS) : Res (List D) := (forceAll rs τ).bind fun ds τ2 => .ok (d :: ds) τ2
def kAll2 (d : D) (ds : List D) (τ : DS) : Res (List D) := .ok (d :: ds) τ
theorem v_all0 : forceAll [] τ = .ok [] τ := (rfl)
theorem v_all1 : forceAll (x :: rs) τ = (force x τ).bind (kAll rs) := (rfl)
theorem v_kall : kAll rs d τ = (forceAll rs τ).bind (kAll2 d) := (rfl)
theorem v_kall2 : kAll2 d ds τ = .ok (d :: ds) τ := (rfl)
theorem v_force_dat : force (.dat d) τ = .ok d τ := (rfl)
theorem v_force_fr : force (.fr cn) τ = .ok cn.d τ := (rfl)
def fSlot (i : Nat) (τ : DS) : Option SV → Res D
  | some (.own c) => .ok c.d (τ.set i (.dat c.d))
  | some (.dat d) => .ok d τ
  | _ => .stuck
theorem v_force_slot : force (.slot i) τ = fSlot i τ τ[i]? := by
  unfold force fSlot
  first | rfl | (split <;> simp_all) | (split <;> rfl)
theorem v_fslot_own : fSlot i τ (some (.own cn)) = .ok cn.d (τ.set i (.dat cn.d)) := (rfl)
theorem v_fslot_dat : fSlot i τ (some (.dat d)) = .ok d τ := (rfl)
def kTup (ds : List D) (τ : DS) : Res RV := if ds.length ≤ bigN then .ok (.dat (.tup ds)) τ else .stuck
theorem v_tup : mTup ms τ = mFast ms kTup τ := (rfl)
theorem v_ktup (h : ds.length ≤ bigN) : kTup ds τ = .ok (.dat (.tup ds)) τ := if_pos h
def kLst (ds : List D) (τ : DS) : Res RV := if ds.length ≤ bigN then .ok (.fr (.lst ds)) τ else .stuck
theorem v_lst : mLst ms τ = mFast ms kLst τ := (rfl)
theorem v_klst (h : ds.length ≤ bigN) : kLst ds τ = .ok (.fr (.lst ds)) τ := if_pos h
theorem v_call {F : List D → FR} : mCall n F ms τ = mFast ms (callF n F) τ := (rfl)
theorem v_callF {F : List D → FR} (h : ds.length = n) : callF n F ds τ = (F ds).at τ := if_pos h
theorem v_at_ok : (FR.ok x).at τ = .ok x τ := (rfl)
theorem v_at_err : (FR.err c).at τ = .err c τ := (rfl)
def vOwn (ms : DS → Res (List RV)) (f : List D → DS → Res RV) (τ : DS) : Option SV → Res RV
  | some (.own _) => mFast ms f τ
  | _ => .stuck
theorem v_callB {F : Cn → List D → FB} : mCallB n F j ms τ = vOwn ms (callB n F j) τ τ[j]? := by
  unfold mCallB vOwn
  first | rfl | (split <;> rfl) | (split <;> simp_all)
theorem v_vown {f : List D → DS → Res RV} : vOwn ms f τ (some (.own cn)) = mFast ms f τ := (rfl)
def vB (F : Cn → List D → FB) (n j : Nat) (ds : List D) (τ : DS) : Option SV → Res RV
  | some (.own c) => if ds.length + 1 = n then (match F c ds with
    | .ok r c' => .ok r (τ.set j (.own c'))
    | .stuck => .stuck) else .stuck
  | _ => .stuck
theorem v_kcallB {F : Cn → List D → FB} : callB n F j ds τ = vB F n j ds τ τ[j]? := by
  unfold callB vB
  first | rfl | (split <;> simp_all) | (split <;> rfl)
def atB (j : Nat) (τ : DS) : FB → Res RV
  | .ok r c' => .ok r (τ.set j (.own c'))
  | .stuck => .stuck
theorem v_vB {F : Cn → List D → FB} (h : ds.length + 1 = n) : vB F n j ds τ (some (.own cn)) = atB j τ (F cn ds) := by
  unfold vB atB
  dsimp only
  rw [if_pos h]
  try (cases F cn ds <;> rfl)
theorem v_atB : atB j τ (.ok x cn) = .ok x (τ.set j (.own cn)) := (rfl)
def vM (i : Nat) (f : List D → List D → Option (D × List D)) (ms : DS → Res (List RV)) (τ : DS) : Option SV → Res RV
  | some (.own (.lst _)) => mFast ms (methAt i f) τ
  | _ => .stuck
theorem v_meth {f : List D → List D → Option (D × List D)} : mMeth i f ms τ = vM i f ms τ τ[i]? := by
  unfold mMeth vM
  first | rfl | (split <;> rfl) | (split <;> simp_all)
theorem v_vM {f : List D → List D → Option (D × List D)} : vM i f ms τ (some (.own (.lst ds))) = mFast ms (methAt i f) τ := (rfl)
def vM2 (i : Nat) (f : List D → List D → Option (D × List D)) (ds : List D) (τ : DS) : Option SV → Res RV
  | some (.own (.lst xs)) => (match f xs ds with
    | some (r, ys) => .ok (.dat r) (τ.set i (.own (.lst ys)))
    | none => .stuck)
  | _ => .stuck
theorem v_methAt {f : List D → List D → Option (D × List D)} : methAt i f ds τ = vM2 i f ds τ τ[i]? := by
  unfold methAt vM2
  first | rfl | (split <;> simp_all) | (split <;> rfl)
def vM3 (i : Nat) (τ : DS) : Option (D × List D) → Res RV
  | some (r, ys) => .ok (.dat r) (τ.set i (.own (.lst ys)))
  | none => .stuck
theorem v_vM2 {f : List D → List D → Option (D × List D)} : vM2 i f ds τ (some (.own (.lst es))) = vM3 i τ (f es ds) := by
  unfold vM2 vM3
  first | rfl | (dsimp only; split <;> simp_all)
theorem v_vM3 : vM3 i τ (some (d, ds)) = .ok (.dat d) (τ.set i (.own (.lst ds))) := (rfl)
theorem v_append (h : ds.length < bigN) : fAppend ds [d] = some (.non, ds ++ [d]) := if_pos h
theorem v_pop : fPop (ds ++ [d]) [] = some (d, ds) := by
  unfold fPop
  simp
def kCB (f : List D → Option RV) (rs : List RV) (τ : DS) : Res RV := ofO ((peeks rs τ).bind f) τ
theorem v_cb {f : List D → Option RV} : mCB f ms τ = (ms τ).bind (kCB f) := (rfl)
def pkL (f : List D → Option RV) : Option (List D) → Option RV
  | some ds => f ds
  | none => none
theorem v_kcb {f : List D → Option RV} : kCB f rs τ = ofO (pkL f (peeks rs τ)) τ := by
  unfold kCB pkL
  cases peeks rs τ <;> rfl
theorem v_pkL {f : List D → Option RV} : pkL f (some ds) = f ds := (rfl)
theorem v_peeks0 : peeks [] τ = some [] := (rfl)
def cons2 : Option D → Option (List D) → Option (List D)
  | some d, some ds => some (d :: ds)
  | _, _ => none
theorem v_peeks1 : peeks (x :: rs) τ = cons2 (peek x τ) (peeks rs τ) := by
  show ((peek x τ).bind fun d => (peeks rs τ).map (d :: ·)) = _
  unfold cons2
  cases peek x τ <;> cases peeks rs τ <;> rfl
theorem v_cons22 : cons2 (some d) (some ds) = some (d :: ds) := (rfl)
def isiD (T : String) (d : D) : Option RV := (isT T d).map fun b => .dat (.bl b)
theorem v_isi {T : String} : mIsi T ma τ = (ma τ).bind (op1 (isiD T)) := (rfl)
def kSl (m1 m2 : DS → Res (Option Int)) (r : RV) (τ : DS) : Res RV := (m1 τ).bind fun lo τ2 => (m2 τ2).bind fun hi τ3 => op1 (fun d => slD d lo hi) r τ3
def kSl2 (m2 : DS → Res (Option Int)) (r : RV) (lo : Option Int) (τ : DS) : Res RV := (m2 τ).bind fun hi τ3 => op1 (fun d => slD d lo hi) r τ3
def slE (lo hi : Option Int) (d : D) : Option RV := slD d lo hi
def kSl3 (r : RV) (lo hi : Option Int) (τ : DS) : Res RV := op1 (slE lo hi) r τ
variable {m1 m2 : DS → Res (Option Int)} {lo hi : Option Int}
theorem v_sl : mSl ma m1 m2 τ = (ma τ).bind (kSl m1 m2) := (rfl)
theorem v_ksl : kSl m1 m2 x τ = (m1 τ).bind (kSl2 m2 x) := (rfl)
theorem v_ksl2 : kSl2 m2 x lo τ = (m2 τ).bind (kSl3 x lo) := (rfl)
theorem v_ksl3 : kSl3 x lo hi τ = op1 (slE lo hi) x τ := (rfl)
theorem v_slE_l {l : List D} : slE lo hi (.lst l) = some (.fr (.lst (cutD l lo hi))) := (rfl)
theorem v_slE_t {l : List D} : slE lo hi (.tup l) = some (.dat (.tup (cutD l lo hi))) := (rfl)
theorem v_slE_r {l : List D} : slE lo hi (.rol l) = some (.fr (.lst (cutD l lo hi))) := (rfl)
def kSome (r : RV) (τ : DS) : Res (Option Int) := ofO ((asInt r).map some) τ
theorem v_some : mSome ma τ = (ma τ).bind kSome := (rfl)
theorem v_ksome {i : Int} : kSome (.dat (.int i)) τ = .ok (some i) τ := (rfl)
theorem v_none : mNone τ = .ok none τ := (rfl)
theorem v_iter : mIter ma τ = ((ma τ).bind force).bind itemsOf := (rfl)
theorem v_it_l {l : List D} : itemsOf (.lst l) τ = .ok l τ := (rfl)
theorem v_it_r {l : List D} : itemsOf (.rol l) τ = .ok l τ := (rfl)
theorem v_it_t {l : List D} : itemsOf (.tup l) τ = .ok l τ := (rfl)
theorem v_rng1 {k : Int} (h : -1000000000 ≤ k ∧ k < 1000000000) : rng1 [.int k] τ = .ok (iRow 0 k.toNat) τ := if_pos h
theorem v_rng2 {k l : Int} (h : -1000000000 ≤ k ∧ k < 1000000000 ∧ -1000000000 ≤ l ∧ l < 1000000000) : rng2 [.int k, .int l] τ = .ok (iRow k (l - k).toNat) τ := if_pos h
variable {mi : DS → Res (List D)} {vs : List Nat} {mt : D → DS → Option DS} {mq : DS → Res Bool}
def kLc (vs : List Nat) (mt : D → DS → Option DS) (mc : DS → Res Bool) (me : DS → Res RV) (xs : List D) (τ : DS) : Res RV := (compL vs mt mc me xs [] τ).bind fun ds τ2 => Res.ok (RV.fr (Cn.lst ds)) τ2
def kLc2 (ds : List D) (τ : DS) : Res RV := .ok (.fr (.lst ds)) τ
theorem v_lc : mLc mi vs mt mq me τ = (mi τ).bind (kLc vs mt mq me) := (rfl)
theorem v_klc {xs : List D} : kLc vs mt mq me xs τ = (compL vs mt mq me xs [] τ).bind kLc2 := (rfl)
theorem v_klc2 : kLc2 ds τ = .ok (.fr (.lst ds)) τ := (rfl)
theorem v_yes : mYes τ = .ok true τ := (rfl)
def vV (T : Tab) (ms : DS → Res (List RV)) (r : RV) (τ : DS) : Res RV := match r with
  | .dat (.sym n) => (match T n with
    | some (ar, F) => mCall ar F ms τ
    | none => .stuck)
  | _ => .stuck
def vV2 (ms : DS → Res (List RV)) (τ : DS) : Option (Nat × (List D → FR)) → Res RV
  | some (ar, F) => mCall ar F ms τ
  | none => .stuck
theorem v_callV {T : Tab} : mCallV T ma ms τ = (ma τ).bind (vV T ms) := (rfl)
theorem v_vV {T : Tab} : vV T ms (.dat (.sym n)) τ = vV2 ms τ (T n) := by
  unfold vV vV2
  first | rfl | (dsimp only; split <;> simp_all)
theorem v_vV2 {F : List D → FR} : vV2 ms τ (some (n, F)) = mCall n F ms τ := (rfl)
variable {sa sb : DS → SRes}
theorem v_seq : mSeq sa sb τ = (sa τ).then sb := (rfl)
theorem v_skip : mSkip τ = .nx τ := (rfl)
theorem v_break : mBreak τ = .bk τ := (rfl)
theorem v_raise : mRaise c τ = .err c τ := (rfl)
def kDrop (_ : RV) (τ : DS) : SRes := .nx τ
theorem v_drop : mDrop ma τ = (ma τ).toS kDrop := (rfl)
theorem v_kdrop : kDrop x τ = .nx τ := (rfl)
theorem v_ret : mRet ma τ = (ma τ).toS retR := (rfl)
theorem v_ret_dat : retR (.dat d) τ = .rt (.dat d) τ := (rfl)
theorem v_ret_fr : retR (.fr cn) τ = .rt (.fr cn) τ := (rfl)
def rSlot (i : Nat) (τ : DS) : Option SV → SRes
  | some (.own c) => .rt (.fr c) (τ.set i .emp)
  | some (.dat d) => .rt (.dat d) τ
  | _ => .stuck
theorem v_ret_slot : retR (.slot i) τ = rSlot i τ τ[i]? := by
  unfold retR rSlot
  first | rfl | (split <;> simp_all) | (split <;> rfl)
theorem v_rslot_own : rSlot i τ (some (.own cn)) = .rt (.fr cn) (τ.set i .emp) := (rfl)
theorem v_rslot_dat : rSlot i τ (some (.dat d)) = .rt (.dat d) τ := (rfl)
theorem v_retN : mRetN τ = .rt (.dat .non) τ := (rfl)
def kIfS (a b : DS → SRes) : Bool → DS → SRes
  | true, τ => a τ
  | false, τ => b τ
theorem v_ifS : mIfS t sa sb τ = (t τ).toS (kIfS sa sb) := by
  unfold mIfS
  cases t τ with
  | ok b τ1 => cases b <;> rfl
  | _ => rfl
theorem v_kifS1 : kIfS sa sb true τ = sa τ := (rfl)
theorem v_kifS0 : kIfS sa sb false τ = sb τ := (rfl)
theorem v_set : mSet i ma τ = (ma τ).toS (putR i) := (rfl)
theorem v_put_dat : putR i (.dat d) τ = .nx (τ.set i (.dat d)) := (rfl)
theorem v_put_fr : putR i (.fr cn) τ = .nx (τ.set i (.own cn)) := (rfl)
def kPut (i : Nat) (d : D) (τ : DS) : SRes := .nx (τ.set i (.dat d))
theorem v_put_slot : putR i (.slot j) τ = (force (.slot j) τ).toS (kPut i) := (rfl)
theorem v_kput : kPut i d τ = .nx (τ.set i (.dat d)) := (rfl)
def kAsg (mt : D → DS → Option DS) (d : D) (τ : DS) : SRes := match mt d τ with
  | some τ2 => .nx τ2
  | none => .stuck
def kAsg2 : Option DS → SRes
  | some τ2 => .nx τ2
  | none => .stuck
theorem v_asg : mAsg mt ma τ = ((ma τ).bind force).toS (kAsg mt) := (rfl)
theorem v_kasg : kAsg mt d τ = kAsg2 (mt d τ) := by
  unfold kAsg kAsg2
  first | rfl | (split <;> simp_all) | (split <;> rfl)
theorem v_kasg2 : kAsg2 (some τ) = .nx τ := (rfl)
variable {tg : D → DS → Option DS} {tgs : List D → DS → Option DS}
theorem v_tgN : tgN i d τ = some (τ.set i (.dat d)) := (rfl)
theorem v_tgNil : tgNil [] τ = some τ := (rfl)
def kTg (b : List D → DS → Option DS) (ds : List D) : Option DS → Option DS
  | some τ => b ds τ
  | none => none
theorem v_tgCons : tgCons tg tgs (d :: ds) τ = kTg tgs ds (tg d τ) := by
  unfold tgCons kTg
  dsimp only
  cases tg d τ <;> rfl
theorem v_ktg : kTg tgs ds (some τ) = tgs ds τ := (rfl)
theorem v_tgT (h : ds.length = n) : tgT n tgs (.tup ds) τ = tgs ds τ := if_pos h
def kPar (i j : Nat) (rs : List RV) (τ : DS) : SRes := match rs with
  | [r1, r2] => ((fixV r1 τ).bind fun s1 τ2 => (fixV r2 τ2).bind fun s2 τ3 => .ok (s1, s2) τ3).toS fun p τ4 => .nx ((τ4.set i p.1).set j p.2)
  | _ => .stuck
def kPar1 (r2 : RV) (s1 : SV) (τ : DS) : Res (SV × SV) := (fixV r2 τ).bind fun s2 τ3 => .ok (s1, s2) τ3
def kPar2 (s1 s2 : SV) (τ : DS) : Res (SV × SV) := .ok (s1, s2) τ
def kPar3 (i j : Nat) (p : SV × SV) (τ : DS) : SRes := .nx ((τ.set i p.1).set j p.2)
variable {s1 s2 : SV}
theorem v_par : mPar i j ms τ = (ms τ).toS (kPar i j) := by
  unfold mPar
  cases ms τ with
  | ok rs τ1 =>
    show (match rs with
      | [r1, r2] => _
      | _ => _) = kPar i j rs τ1
    unfold kPar
    first | rfl | (split <;> rfl) | (split <;> simp_all)
  | _ => rfl
theorem v_kpar : kPar i j [x, y] τ = ((fixV x τ).bind (kPar1 y)).toS (kPar3 i j) := (rfl)
theorem v_kpar1 : kPar1 y s1 τ = (fixV y τ).bind (kPar2 s1) := (rfl)
theorem v_kpar2 : kPar2 s1 s2 τ = .ok (s1, s2) τ := (rfl)
theorem v_kpar3 : kPar3 i j (s1, s2) τ = .nx ((τ.set i s1).set j s2) := (rfl)
theorem v_fix_dat : fixV (.dat d) τ = .ok (.dat d) τ := (rfl)
theorem v_fix_fr : fixV (.fr cn) τ = .ok (.own cn) τ := (rfl)
def kFix (d : D) (τ : DS) : Res SV := .ok (.dat d) τ
theorem v_fix_slot : fixV (.slot i) τ = (force (.slot i) τ).bind kFix := (rfl)
theorem v_kfix : kFix d τ = .ok (.dat d) τ := (rfl)
variable {fi : Int → Int → Option Int} {k l : Int}
theorem v_for : mFor mi mt sa τ = (mi τ).toS (forL mt sa) := (rfl)
theorem v_for0 : forL mt sa [] τ = .nx τ := (rfl)
def kFor (mt : D → DS → Option DS) (mb : DS → SRes) (xs : List D) : Option DS → SRes
  | none => .stuck
  | some τ1 => match mb τ1 with
    | .nx τ2 => forL mt mb xs τ2
    | .ct τ2 => forL mt mb xs τ2
    | .bk τ2 => .nx τ2
    | r => r
def kFor2 (mt : D → DS → Option DS) (mb : DS → SRes) (xs : List D) : SRes → SRes
  | .nx τ2 => forL mt mb xs τ2
  | .ct τ2 => forL mt mb xs τ2
  | .bk τ2 => .nx τ2
  | r => r
theorem v_for1 {xs : List D} : forL mt sa (d :: xs) τ = kFor mt sa xs (mt d τ) := by
  conv => lhs; unfold forL
  unfold kFor
  first | rfl | (split <;> simp_all) | (split <;> rfl)
theorem v_kfor {xs : List D} : kFor mt sa xs (some τ) = kFor2 mt sa xs (sa τ) := by
  unfold kFor kFor2
  first | rfl | (dsimp only; split <;> simp_all)
theorem v_kfor_nx {xs : List D} : kFor2 mt sa xs (.nx τ) = forL mt sa xs τ := (rfl)
theorem v_kfor_ct {xs : List D} : kFor2 mt sa xs (.ct τ) = forL mt sa xs τ := (rfl)
theorem v_kfor_bk {xs : List D} : kFor2 mt sa xs (.bk τ) = .nx τ := (rfl)
theorem v_kfor_rt {xs : List D} : kFor2 mt sa xs (.rt x τ) = .rt x τ := (rfl)
noncomputable def kWh (c : DS → Res Bool) (b : DS → SRes) : Res Bool → SRes
  | .ok true τ1 => match b τ1 with
    | .nx τ2 => mWhile c b τ2
    | .ct τ2 => mWhile c b τ2
    | .bk τ2 => .nx τ2
    | r => r
  | .ok false τ1 => .nx τ1
  | .err c τ1 => .err c τ1
  | .stuck => .stuck
noncomputable def kWh2 (c : DS → Res Bool) (b : DS → SRes) : SRes → SRes
  | .nx τ2 => mWhile c b τ2
  | .ct τ2 => mWhile c b τ2
  | .bk τ2 => .nx τ2
  | r => r
theorem v_while : mWhile t sa τ = kWh t sa (t τ) := by
  rw [mWhile_eq]
  unfold kWh
  first | rfl | (split <;> simp_all) | (split <;> rfl)
theorem v_kwh0 : kWh t sa (.ok false τ) = .nx τ := (rfl)
theorem v_kwh1 : kWh t sa (.ok true τ) = kWh2 t sa (sa τ) := by
  unfold kWh kWh2
  first | rfl | (dsimp only; split <;> simp_all)
theorem v_kwh_nx : kWh2 t sa (.nx τ) = mWhile t sa τ := (rfl)
theorem v_kwh_ct : kWh2 t sa (.ct τ) = mWhile t sa τ := (rfl)
theorem v_kwh_bk : kWh2 t sa (.bk τ) = .nx τ := (rfl)
theorem v_kwh_rt : kWh2 t sa (.rt x τ) = .rt x τ := (rfl)
def kTry (i : Nat) (cs : Nat → Option Bool) (ms : Nat → DS → Res RV) : SRes → SRes
  | .err c τ1 => (match cs c with
    | some true => if i < τ1.length then (match ms c (τ1.set i .emp) with
      | .ok r τ2 => retR r τ2
      | _ => .stuck) else .stuck
    | some false => .err c τ1
    | none => .stuck)
  | r => r
def kTry2 (i c : Nat) (ms : Nat → DS → Res RV) (τ1 : DS) : Option Bool → SRes
  | some true => if i < τ1.length then (match ms c (τ1.set i .emp) with
      | .ok r τ2 => retR r τ2
      | _ => .stuck) else .stuck
  | some false => .err c τ1
  | none => .stuck
def kTry3 : Res RV → SRes
  | .ok r τ2 => retR r τ2
  | _ => .stuck
variable {cs : Nat → Option Bool} {mh : Nat → DS → Res RV}
theorem v_try : mTry i cs sa mh τ = kTry i cs mh (sa τ) := by
  unfold mTry kTry
  first | rfl | (split <;> simp_all) | (split <;> rfl)
theorem v_ktry_nx : kTry i cs mh (.nx τ) = .nx τ := (rfl)
theorem v_ktry_rt : kTry i cs mh (.rt x τ) = .rt x τ := (rfl)
theorem v_ktry_er : kTry i cs mh (.err c τ) = kTry2 i c mh τ (cs c) := by
  unfold kTry kTry2
  first | rfl | (dsimp only; split <;> simp_all)
theorem v_ktry2 (h : i < τ.length) : kTry2 i c mh τ (some true) = kTry3 (mh c (τ.set i .emp)) := by
  unfold kTry2 kTry3
  dsimp only
  rw [if_pos h]
  try first | rfl | (split <;> simp_all) | (split <;> rfl)
theorem v_ktry3 : kTry3 (.ok x τ) = retR x τ := (rfl)
def endF : SRes → FR
  | .rt r _ => .ok r
  | .nx _ => .ok (.dat .non)
  | .err c _ => .err c
  | _ => .stuck
theorem v_runF : runF n sa ds = endF (sa (ds.map SV.dat ++ List.replicate (n - ds.length) .emp)) := by
  unfold runF endF
  first | rfl | (split <;> simp_all) | (split <;> rfl)
theorem v_endF_rt : endF (.rt x τ) = .ok x := (rfl)
theorem v_endF_nx : endF (.nx τ) = .ok (.dat .non) := (rfl)
theorem v_endF_er : endF (.err c τ) = .err c := (rfl)
def endB : SRes → FB
  | .rt r τ => outB r τ
  | .nx τ => outB (.dat .non) τ
  | _ => .stuck
theorem v_runB : runB n sa cn ds = endB (sa (.own cn :: (ds.map SV.dat ++ List.replicate (n - 1 - ds.length) .emp))) := by
  unfold runB endB
  first | rfl | (split <;> simp_all) | (split <;> rfl)
theorem v_endB_rt : endB (.rt x (.own cn :: τ)) = .ok x cn := (rfl)
theorem v_endB_nx : endB (.nx (.own cn :: τ)) = .ok (.dat .non) cn := (rfl)
theorem v_add : addD (.int k) (.int l) = some (.dat (.int (k + l))) := (rfl)
theorem v_sub : subD (.int k) (.int l) = some (.dat (.int (k - l))) := (rfl)
theorem v_mod (h : l ≠ 0) : modD (.int k) (.int l) = some (.dat (.int (k.fmod l))) := if_pos h
theorem v_fdiv (h1 : 0 < l) (h2 : l < 2 ^ 250) : fdivD (.int k) (.int l) = some (.dat (.int (k.fdiv l))) := by
  unfold fdivD
  dsimp only
  split
  · rfl
  · rw [if_pos ⟨h1, h2⟩]
theorem v_neg : negD (.int k) = some (.dat (.int (-k))) := (rfl)
theorem v_lt : ltD (.int k) (.int l) = some (.dat (.bl (decide (k < l)))) := (rfl)
theorem v_cmp {p : Int → Int → Bool} : cmpI p (.int k) (.int l) = some (.dat (.bl (p k l))) := (rfl)
theorem eqB_ii : eqB (.int k) (.int l) = some (k == l) := by
  show (if SeqAt.shaped (.int k) = true ∧ SeqAt.shaped (.int l) = true then some (PyData.eqv (.int k) (.int l)) else none) = _
  rw [if_pos ⟨rfl, rfl⟩]
  rfl
theorem v_eq : eqD (.int k) (.int l) = some (.dat (.bl (k == l))) := by
  unfold eqD; rw [eqB_ii]; rfl
theorem v_ne : neD (.int k) (.int l) = some (.dat (.bl (!(k == l)))) := by
  unfold neD; rw [eqB_ii]; rfl
theorem v_absD : absD [.int k] = some (.dat (.int (if k < 0 then -k else k))) := (rfl)
theorem v_int1 : int1D [.int k] = some (.dat (.int k)) := (rfl)
theorem v_len_l : lenD [.lst ds] = some (.dat (.int ds.length)) := (rfl)
theorem v_len_t : lenD [.tup ds] = some (.dat (.int ds.length)) := (rfl)
theorem v_len_r : lenD [.rol ds] = some (.dat (.int ds.length)) := (rfl)
theorem v_list_l : listD [.lst ds] = some (.fr (.lst ds)) := (rfl)
theorem v_list_t : listD [.tup ds] = some (.fr (.lst ds)) := (rfl)
theorem v_rev_l : revD (.lst ds) = some (.fr (.lst ds.reverse)) := (rfl)
theorem v_rev_r : revD (.rol ds) = some (.fr (.lst ds.reverse)) := (rfl)
theorem atI_at {l : List D} {k : Nat} (h : l[k]? = some d) : L2.atI l (k : Int) = some d := by
  rw [L2.atI_nat h]
theorem v_ixt {l : List D} : ixD (.tup l) (.int k) = (L2.atI l k).map .dat := (rfl)
theorem v_ixl {l : List D} : ixD (.lst l) (.int k) = (L2.atI l k).map .dat := (rfl)
theorem v_ixr {l : List D} : ixD (.rol l) (.int k) = (L2.atI l k).map .dat := (rfl)
end
theorem for_rule {mt : D → DS → Option DS} {mb : DS → SRes} {R : SRes → Prop} (Inv : Nat → DS → Prop) {xs : List D} {τ : DS} (h0 : Inv 0 τ)
    (step : ∀ i x τ, xs[i]? = some x → Inv i τ → ∃ τ1, mt x τ = some τ1 ∧ ((∃ τ2, (mb τ1 = .nx τ2 ∨ mb τ1 = .ct τ2) ∧ Inv (i + 1) τ2) ∨ (∃ τ2, mb τ1 = .bk τ2 ∧ R (.nx τ2)) ∨ (∃ r τ2, mb τ1 = .rt r τ2 ∧ R (.rt r τ2))))
    (fin : ∀ τ, Inv xs.length τ → R (.nx τ)) : R (forL mt mb xs τ) := by
  have key : ∀ (k : Nat) (τ : DS), k ≤ xs.length → Inv (xs.length - k) τ → R (forL mt mb (xs.drop (xs.length - k)) τ) := by
    intro k
    induction k with
    | zero =>
      intro τ _ hI
      rw [Nat.sub_zero, List.drop_length]
      exact fin τ hI
    | succ k ih =>
      intro τ hk hI
      have hlt : xs.length - (k + 1) < xs.length := by omega
      have e : xs.length - (k + 1) + 1 = xs.length - k := by omega
      rw [List.drop_eq_getElem_cons hlt, v_for1]
      obtain ⟨τ1, h1, h2⟩ := step _ _ τ (List.getElem?_eq_getElem hlt) hI
      rw [h1, v_kfor]
      rcases h2 with ⟨τ2, h3, h4⟩ | ⟨τ2, h3, h4⟩ | ⟨r, τ2, h3, h4⟩
      · rw [e] at h4
        rw [e]
        rcases h3 with h3 | h3
        · rw [h3, v_kfor_nx]; exact ih τ2 (by omega) h4
        · rw [h3, v_kfor_ct]; exact ih τ2 (by omega) h4
      · rw [h3, v_kfor_bk]; exact h4
      · rw [h3, v_kfor_rt]; exact h4
  have := key xs.length τ (Nat.le_refl _) (by rw [Nat.sub_self]; exact h0)
  rwa [Nat.sub_self, List.drop_zero] at this
theorem for_all {mt : D → DS → Option DS} {mb : DS → SRes} (Inv : Nat → DS → Prop) {xs : List D} {τ : DS} (h0 : Inv 0 τ)
    (step : ∀ i x τ, xs[i]? = some x → Inv i τ → ∃ τ1 τ2, mt x τ = some τ1 ∧ mb τ1 = .nx τ2 ∧ Inv (i + 1) τ2) : ∃ τ', forL mt mb xs τ = .nx τ' ∧ Inv xs.length τ' :=
  for_rule (R := fun r => ∃ τ', r = .nx τ' ∧ Inv xs.length τ') Inv h0 (fun i x τ hx hI => by
    obtain ⟨τ1, τ2, h1, h2, h3⟩ := step i x τ hx hI
    exact ⟨τ1, h1, .inl ⟨τ2, .inl h2, h3⟩⟩) fun τ h => ⟨τ, rfl, h⟩
theorem while_rule {c : DS → Res Bool} {b : DS → SRes} {R : SRes → Prop} (Inv : Nat → DS → Prop) (step : ∀ k τ, Inv k τ → (∃ τ1, c τ = .ok false τ1 ∧ R (.nx τ1)) ∨ (∃ τ1, c τ = .ok true τ1 ∧ ((∃ j τ2, (b τ1 = .nx τ2 ∨ b τ1 = .ct τ2) ∧ j < k ∧ Inv j τ2) ∨ (∃ τ2, b τ1 = .bk τ2 ∧ R (.nx τ2)) ∨ (∃ r τ2, b τ1 = .rt r τ2 ∧ R (.rt r τ2))))) {k : Nat} {τ : DS} (h0 : Inv k τ) : R (mWhile c b τ) := by
  induction k using Nat.strongRecOn generalizing τ with
  | ind k ih =>
    rw [v_while]
    rcases step k τ h0 with ⟨τ1, h1, h2⟩ | ⟨τ1, h1, h2⟩
    · rw [h1, v_kwh0]; exact h2
    · rw [h1, v_kwh1]
      rcases h2 with ⟨j, τ2, h3, hj, h4⟩ | ⟨τ2, h3, h4⟩ | ⟨r, τ2, h3, h4⟩
      · rcases h3 with h3 | h3
        · rw [h3, v_kwh_nx]; exact ih j hj h4
        · rw [h3, v_kwh_ct]; exact ih j hj h4
      · rw [h3, v_kwh_bk]; exact h4
      · rw [h3, v_kwh_rt]; exact h4
theorem comp_map {vs : List Nat} {mt : D → DS → Option DS} {mc : DS → Res Bool} {me : DS → Res RV} {τ : DS} (p : D → Bool) (f : D → D) {xs : List D}
    (step : ∀ x ∈ xs, ∃ τ1 τ2, mt x (wipeT τ vs) = some τ1 ∧ mc τ1 = .ok (p x) τ2 ∧ (p x = false → unwipe τ τ2 vs = τ) ∧ (p x = true → ∃ r τ3 τ4, me τ2 = .ok r τ3 ∧ force r τ3 = .ok (f x) τ4 ∧ unwipe τ τ4 vs = τ)) (acc : List D) (hl : acc.length + xs.length ≤ bigN) :
    compL vs mt mc me xs acc τ = .ok (acc ++ (xs.filter p).map f) τ := by
  induction xs generalizing acc with
  | nil => simp [compL]
  | cons x xs ih =>
    obtain ⟨τ1, τ2, h1, h2, h3, h4⟩ := step x List.mem_cons_self
    rw [List.length_cons] at hl
    unfold compL
    rw [h1]
    dsimp only
    rw [h2]
    cases hp : p x with
    | false =>
      dsimp only
      rw [h3 hp, ih (fun y hy => step y (List.mem_cons_of_mem _ hy)) acc (by omega), List.filter_cons_of_neg (by simp [hp])]
    | true =>
      obtain ⟨r, τ3, τ4, h5, h6, h7⟩ := h4 hp
      dsimp only
      rw [h5, v_bok, h6]
      dsimp only
      rw [if_pos (by omega), h7, ih (fun y hy => step y (List.mem_cons_of_mem _ hy)) (acc ++ [f x]) (by simp; omega), List.filter_cons_of_pos hp]
      simp
end DL
set_option maxHeartbeats 1000000
namespace DL
open PySem L2
theorem v_kb_NoneType_bool : kitB "NoneType" "bool" = some false := by decide +kernel
theorem v_kb_NoneType_int : kitB "NoneType" "int" = some false := by decide +kernel
theorem v_kb_NoneType_str : kitB "NoneType" "str" = some false := by decide +kernel
theorem v_kb_NoneType_tuple : kitB "NoneType" "tuple" = some false := by decide +kernel
theorem v_kb_NoneType_list : kitB "NoneType" "list" = some false := by decide +kernel
theorem v_kb_NoneType_dict : kitB "NoneType" "dict" = some false := by decide +kernel
theorem v_kb_bool_bool : kitB "bool" "bool" = some true := by decide +kernel
theorem v_kb_bool_int : kitB "bool" "int" = some true := by decide +kernel
theorem v_kb_bool_str : kitB "bool" "str" = some false := by decide +kernel
theorem v_kb_bool_tuple : kitB "bool" "tuple" = some false := by decide +kernel
theorem v_kb_bool_list : kitB "bool" "list" = some false := by decide +kernel
theorem v_kb_bool_dict : kitB "bool" "dict" = some false := by decide +kernel
theorem v_kb_int_bool : kitB "int" "bool" = some false := by decide +kernel
theorem v_kb_int_int : kitB "int" "int" = some true := by decide +kernel
theorem v_kb_int_str : kitB "int" "str" = some false := by decide +kernel
theorem v_kb_int_tuple : kitB "int" "tuple" = some false := by decide +kernel
theorem v_kb_int_list : kitB "int" "list" = some false := by decide +kernel
theorem v_kb_int_dict : kitB "int" "dict" = some false := by decide +kernel
theorem v_kb_str_bool : kitB "str" "bool" = some false := by decide +kernel
theorem v_kb_str_int : kitB "str" "int" = some false := by decide +kernel
theorem v_kb_str_str : kitB "str" "str" = some true := by decide +kernel
theorem v_kb_str_tuple : kitB "str" "tuple" = some false := by decide +kernel
theorem v_kb_str_list : kitB "str" "list" = some false := by decide +kernel
theorem v_kb_str_dict : kitB "str" "dict" = some false := by decide +kernel
theorem v_kb_tuple_bool : kitB "tuple" "bool" = some false := by decide +kernel
theorem v_kb_tuple_int : kitB "tuple" "int" = some false := by decide +kernel
theorem v_kb_tuple_str : kitB "tuple" "str" = some false := by decide +kernel
theorem v_kb_tuple_tuple : kitB "tuple" "tuple" = some true := by decide +kernel
theorem v_kb_tuple_list : kitB "tuple" "list" = some false := by decide +kernel
theorem v_kb_tuple_dict : kitB "tuple" "dict" = some false := by decide +kernel
theorem v_kb_list_bool : kitB "list" "bool" = some false := by decide +kernel
theorem v_kb_list_int : kitB "list" "int" = some false := by decide +kernel
theorem v_kb_list_str : kitB "list" "str" = some false := by decide +kernel
theorem v_kb_list_tuple : kitB "list" "tuple" = some false := by decide +kernel
theorem v_kb_list_list : kitB "list" "list" = some true := by decide +kernel
theorem v_kb_list_dict : kitB "list" "dict" = some false := by decide +kernel
theorem v_kb_dict_bool : kitB "dict" "bool" = some false := by decide +kernel
theorem v_kb_dict_int : kitB "dict" "int" = some false := by decide +kernel
theorem v_kb_dict_str : kitB "dict" "str" = some false := by decide +kernel
theorem v_kb_dict_tuple : kitB "dict" "tuple" = some false := by decide +kernel
theorem v_kb_dict_list : kitB "dict" "list" = some false := by decide +kernel
theorem v_kb_dict_dict : kitB "dict" "dict" = some true := by decide +kernel
section
variable {T : String} {i : Int} {b : Bool} {x : Str} {ds : List D} {kvs : List (D × D)} {o : Bool}
theorem v_isi_non : isiD T .non = (kitB "NoneType" T).map fun b => .dat (.bl b) := (rfl)
theorem v_isi_bl : isiD T (.bl b) = (kitB "bool" T).map fun b => .dat (.bl b) := (rfl)
theorem v_isi_int : isiD T (.int i) = (kitB "int" T).map fun b => .dat (.bl b) := (rfl)
theorem v_isi_str : isiD T (.str x) = (kitB "str" T).map fun b => .dat (.bl b) := (rfl)
theorem v_isi_tup : isiD T (.tup ds) = (kitB "tuple" T).map fun b => .dat (.bl b) := (rfl)
theorem v_isi_lst : isiD T (.lst ds) = (kitB "list" T).map fun b => .dat (.bl b) := (rfl)
theorem v_isi_dct : isiD T (.dct kvs) = (kitB "dict" T).map fun b => .dat (.bl b) := (rfl)
theorem eqB_bb {a b : Bool} : eqB (.bl a) (.bl b) = some (a == b) := by
  show (if SeqAt.shaped (.bool a) = true ∧ SeqAt.shaped (.bool b) = true then some (PyData.eqv (.bool a) (.bool b)) else none) = _
  rw [if_pos ⟨rfl, rfl⟩]
  rfl
theorem v_eq_bb {a b : Bool} : eqD (.bl a) (.bl b) = some (.dat (.bl (a == b))) := by
  unfold eqD; rw [eqB_bb]; rfl
theorem v_ne_bb {a b : Bool} : neD (.bl a) (.bl b) = some (.dat (.bl (!(a == b)))) := by
  unfold neD; rw [eqB_bb]; rfl
theorem v_isNone_non : isNoneD .non = some (.dat (.bl true)) := (rfl)
theorem v_isNone_bl : isNoneD (.bl b) = some (.dat (.bl false)) := (rfl)
theorem v_isNone_int : isNoneD (.int i) = some (.dat (.bl false)) := (rfl)
theorem v_isNone_str : isNoneD (.str x) = some (.dat (.bl false)) := (rfl)
theorem v_isNone_tup : isNoneD (.tup ds) = some (.dat (.bl false)) := (rfl)
theorem v_isNone_lst : isNoneD (.lst ds) = some (.dat (.bl false)) := (rfl)
end
def Good : Nat → D → Prop
  | 0, _ => False
  | k + 1, d => match d with
    | .non => True
    | .bl _ => True
    | .int _ => True
    | .str x => PyData.strOk x = true
    | .tup ds => ds.length ≤ 100000 ∧ ∀ x ∈ ds, Good k x
    | .lst ds => ds.length ≤ 100000 ∧ ∀ x ∈ ds, Good k x
    | _ => False
theorem Good.py : ∀ {k : Nat} {d : D}, Good k d → ∃ p, pyD d = some p ∧ p.canLay0 = true ∧ p.depth ≤ k ∧ PyData.eqv p p = true := by
  intro k
  induction k with
  | zero => intro d h; exact h.elim
  | succ k ih =>
    have all : ∀ ds : List D, (∀ x ∈ ds, Good k x) → ∃ ps, pyDs ds = some ps ∧ PyData.canLayAll0 ps = true ∧ PyData.depthAll ps ≤ k ∧ PyData.eqvAll ps ps = true := by
      intro ds
      induction ds with
      | nil => intro _; exact ⟨[], rfl, rfl, Nat.zero_le _, rfl⟩
      | cons d ds ihd =>
        intro h
        obtain ⟨p, e1, e2, e3, e4⟩ := ih (h d List.mem_cons_self)
        obtain ⟨ps, q1, q2, q3, q4⟩ := ihd fun x hx => h x (List.mem_cons_of_mem _ hx)
        refine ⟨p :: ps, ?_, ?_, ?_, ?_⟩
        · unfold pyDs; rw [e1, q1]; rfl
        · simp [PyData.canLayAll0, e2, q2]
        · simp only [PyData.depthAll]; omega
        · simp [PyData.eqvAll, e4, q4]
    intro d h
    cases d with
    | non => exact ⟨.none, rfl, rfl, Nat.zero_le _, rfl⟩
    | bl b => exact ⟨.bool b, rfl, rfl, Nat.zero_le _, by simp [PyData.eqv]⟩
    | int i => exact ⟨.int i, rfl, rfl, Nat.zero_le _, by simp [PyData.eqv]⟩
    | str x => exact ⟨.str x, rfl, h, Nat.zero_le _, by simp [PyData.eqv]⟩
    | tup ds =>
      obtain ⟨ps, q1, q2, q3, q4⟩ := all ds h.2
      refine ⟨.tuple ps, ?_, ?_, ?_, ?_⟩
      · unfold pyD; rw [q1]; rfl
      · simpa [PyData.canLay0] using q2
      · simp only [PyData.depth]; omega
      · simpa [PyData.eqv] using q4
    | lst ds =>
      obtain ⟨ps, q1, q2, q3, q4⟩ := all ds h.2
      refine ⟨.list ps, ?_, ?_, ?_, ?_⟩
      · unfold pyD; rw [q1]; rfl
      · simpa [PyData.canLay0] using q2
      · simp only [PyData.depth]; omega
      · simpa [PyData.eqv] using q4
    | _ => exact h.elim
theorem Good.shaped {k : Nat} {d : D} (h : Good k d) (hk : k ≤ 64) : ∃ p, pyD d = some p ∧ SeqAt.shaped p = true ∧ PyData.eqv p p = true := by
  obtain ⟨p, e1, e2, e3, e4⟩ := h.py
  refine ⟨p, e1, ?_, e4⟩
  unfold SeqAt.shaped
  rw [e2, decide_eq_true (Nat.le_trans e3 hk)]
  rfl
theorem eqB_refl {k : Nat} {d : D} (h : Good k d) (hk : k ≤ 64) : eqB d d = some true := by
  obtain ⟨p, e1, e2, e3⟩ := h.shaped hk
  unfold eqB
  rw [e1]
  show (if SeqAt.shaped p = true ∧ SeqAt.shaped p = true then some (PyData.eqv p p) else none) = _
  rw [if_pos ⟨e2, e2⟩, e3]
theorem eqD_refl {k : Nat} {d : D} (h : Good k d) (hk : k ≤ 64) : eqD d d = some (.dat (.bl true)) := by
  unfold eqD; rw [eqB_refl h hk]; rfl
theorem comp_all {vs : List Nat} {mt : D → DS → Option DS} {mc : DS → Res Bool} {me : DS → Res RV} {τ : DS} (f : D → D) {xs : List D}
    (step : ∀ x ∈ xs, ∃ τ1 τ2 r τ3 τ4, mt x (wipeT τ vs) = some τ1 ∧ mc τ1 = .ok true τ2 ∧ me τ2 = .ok r τ3 ∧ force r τ3 = .ok (f x) τ4 ∧ unwipe τ τ4 vs = τ) (hl : xs.length ≤ bigN) :
    compL vs mt mc me xs [] τ = .ok (xs.map f) τ := by
  have := comp_map (vs := vs) (mt := mt) (mc := mc) (me := me) (τ := τ) (fun _ => true) f (xs := xs) (fun x hx => by
    obtain ⟨τ1, τ2, r, τ3, τ4, h1, h2, h3, h4, h5⟩ := step x hx
    exact ⟨τ1, τ2, h1, h2, fun z => Bool.noConfusion z, fun _ => ⟨r, τ3, τ4, h3, h4, h5⟩⟩) [] (by simpa using hl)
  rw [List.filter_eq_self.mpr (fun _ _ => rfl)] at this
  exact this
theorem iRow_len (lo : Int) (n : Nat) : (iRow lo n).length = n := by simp [iRow]
theorem iRow_mem {lo : Int} {n : Nat} {d : D} (h : d ∈ iRow lo n) : ∃ i : Nat, i < n ∧ d = .int (lo + i) := by
  simp only [iRow, List.mem_map, List.mem_range] at h
  obtain ⟨i, hi, rfl⟩ := h
  exact ⟨i, hi, rfl⟩
theorem allBls_bl {α : Type} (ds : List α) (f : α → Bool) : allBls (ds.map fun d => .bl (f d)) = some (ds.map f) := by
  induction ds with
  | nil => rfl
  | cons d ds ih =>
    rw [List.map_cons]
    unfold allBls
    rw [ih]
    rfl
theorem allD_bl {α : Type} (ds : List α) (f : α → Bool) : allD [.lst (ds.map fun d => .bl (f d))] = some (.dat (.bl (ds.all f))) := by
  unfold allD
  dsimp only
  rw [allBls_bl]
  show some (RV.dat (D.bl ((ds.map f).all fun b => b))) = _
  rw [List.all_map]
  rfl
end DL
set_option maxHeartbeats 1000000
namespace DL
open PySem PySem.Spec PyProof.Rows L2 L2H
section
variable {X : Cx} {g : Gm} {W : WX} {x : Str} {pos : Pos}
theorem de_gint {i : Int} (hm : ∃ t, X.mg x = some (.int i t)) (hg : Gl X x) (hd : (x == ("__debug__" : Str)) = false := by decide) : DE X g W (.Name x pos) (mC (.int i)) := by
  obtain ⟨t, e⟩ := hm
  exact de_glob (v := .int i) hg e ⟨t, rfl⟩ (fun _ => .int i) hd
end
theorem call_isP {X : Cx} {a C0 : Addr} {ob : Obj} (hp : (a, ob) ∈ X.pn) (C : ExcC X.K C0) (hz : Zc (.ref C0) none ob) (hf : ∃ vs, ob.data = .fields vs) : CallR X (.builtin "isinstance") (rIsE X.K C0 a) := by
  intro pins s σ H xs us Q I r ⟨c, cv, b, ex, hcv, e, q⟩
  subst ex
  match us, r with
  | [_, u], .cons rx (.cons rt .nil) =>
    obtain rfl : _ = Value.ref a := rx
    obtain rfl := hcv _ rt
    have J : PySem.W.InstAt s.heap a ob C0 none := by
      obtain ⟨z1, z2⟩ := hz
      obtain ⟨vs, hv⟩ := hf
      have hget := (I.pin (a, ob) (List.mem_append_left _ hp)).1
      cases ob
      cases z1; cases z2; cases hv
      exact ⟨hget, rfl, rfl, trivial⟩
    exact PySem.W.kia_one (PySem.W.handS_kitx_exc C.hg C.hk C.hs C.hd C.ha C.hn C.ht C.hm) I.kIn J e (fun z => nomatch z) fun tk => ⟨.bl b, H, I.kept (t' := tk) fun _ _ z => z, rfl, q⟩
theorem run_hotP {Y : Cx} {pins : List (Addr × Obj)} {σ : L2.St} {H : Hp} {s : Shared} {Q : VK} {us : List Value} {vs : List V} {p : Addr × Obj} {N ps : List Str} {k : Nat} {f : Addr} {x qual : Str} {st : Stmt} {fd : FuncData} (F : Fun Y.K x qual st f fd) (Sc : FnScope N ps (defScope st))
    (hot : Hot1 Y.A p) (hp : p ∈ Y.pn) (hr : RoomH k Y.A) (hb : Binds Y.K fd ps []) (I : Inv Y pins σ H s) (r : Vals vs us) (hl : vs.length = ps.length)
    (body : ∀ cdv, ∃ t, PSs (cxH (L2N.CX Y.prog Y.w) Y.prog Y.w Y.K Y.mg Y.base N qual (defScope st) f cdv Y.A Y.stack s H (fun _ _ _ => False) p) (defBody st) t ∧ t { nx := fun _ H' => Q .non H', rt := Q } (L2.start N vs) H) :
    wpAny (model Y.prog Y.w) Y.A (call (.ref f) us) (EP Y pins σ Q) Y.xe s := by
  have bd := hb s us I.kIn (by rw [List.append_nil, ← r.length]; exact hl)
  rw [List.append_nil] at bd
  obtain ⟨q1, q2, q3, q4, q5⟩ := I.pin p (List.mem_append_left _ hp)
  have pin : PinOk Y.stack H s p := ⟨q1, q2, fun z => (List.mem_cons.mp (I.stkSub p.1 z)).elim q3 q4, q5⟩
  have e0 := I.env0
  have lim : s.heap.NoLimit := e0.mod.nolimit.keeps fun b o e => (e0.bs b o e).1
  obtain ⟨_, _, _, _, _, _, cdv, _, _, rfl, lk, hcd⟩ := F.ex
  have kinds : ∀ y ∈ ps.zip us, (defScope st).names.lookup y.1 = some .local ∨ ((defScope st).names.lookup y.1 = some .cell ∧ ((cellsFrom (s.heap.objs.size + 1) (defScope st).names []).lookup y.1).isSome = true) := by
    rintro ⟨n, v⟩ hy
    exact (Sc.par n (List.of_mem_zip hy).1).imp id fun z => ⟨z, PySem.W.cellsFrom_some _ _ _ (.inl z)⟩
  obtain ⟨t, ht, hq⟩ := body cdv
  have leave : ∀ (v : V) (u : Value) (H' : Hp) (s' : Shared) (σ' : L2.St), Inv (cxH (L2N.CX Y.prog Y.w) Y.prog Y.w Y.K Y.mg Y.base N qual (defScope st) f cdv Y.A Y.stack s H (fun _ _ _ => False) p) [] σ' H' s' → RelV v u → Q v H' → EP Y pins σ Q u s' :=
    fun v u H' s' σ' J rv qv => I.after ⟨v, H', J.os, J.bare, J.base, J.hok, rv, qv⟩
  refine wpAny_call (codeAny_mono (R := CR (L2N.CX Y.prog Y.w) Y.stack Y.prog Y.w H s Q (fun _ _ _ => False)) ?_ ?_)
  · refine codeAny_call_function hr.depth (I.kIn _ _ lk) rfl Sc.co Sc.gen rfl (PySem.W.codeRec_of I.kIn hcd) (bd _ _ _ _ (wpAny_newFunctionEnv_cells Sc.kind kinds fun env he s1 ic => ?_))
    subst he
    refine ⟨lim.keeps ic.toInCall.keep, codeAny_func (wpAny_mono (ht.run [] s1 (L2.start N vs) H _ (inv_startH Sc pin e0 hl r ic) hq) (fun fl s' z => ?_) fun _ _ z => z)⟩
    cases fl with
    | next =>
      obtain ⟨_, H', J, z⟩ := z
      exact ⟨.non, H', J.os, J.bare, J.base, J.hok, rfl, z⟩
    | ret u =>
      obtain ⟨v, _, H', J, rv, z⟩ := z
      exact ⟨v, H', J.os, J.bare, J.base, J.hok, rv, z⟩
    | brk => obtain ⟨_, _, _, z⟩ := z; exact z.elim
    | cont => obtain ⟨_, _, _, z⟩ := z; exact z.elim
  · intro r s' z
    cases r with
    | error e => exact L2N.passAt takesF σ pins H s e s' I z
    | ok fl =>
      cases fl with
      | ret u => exact I.after z
      | next => exact z.elim
      | brk => exact z.elim
      | cont => exact z.elim
section
variable {Y : Cx} {g : Gm} {a c0 : Addr} {ob : Obj} {n x1 : Str} {b : Bool} {bs : List Bool} {es : List Expr} {c1 : Nat} {p3 p4 p5 p6 : Pos} {i : Nat}
theorem pe_flag (hp : (a, ob) ∈ Y.pn) (C : ExcC Y.K c0) (hz : Zc (.ref c0) none ob) (hf : ∃ vs, ob.data = .fields vs) (hb : PySem.W.kitOne Y.K (.ref c0) (.ref (g c1)) = some b) (hgS : Gl Y "isinstance") (hmS : Y.mg "isinstance" = none) (hg1 : Gl Y x1) (hm1 : Y.mg x1 = some (.ref (g c1))) (hd1 : (x1 == ("__debug__" : Str)) = false)
    (hN : Y.N[i]? = some n) (hv : Vis Y.env.scope n) (hd : (n == ("__debug__" : Str)) = false) (hcd : (n == ("__classdict__" : Str)) = false)
    (hs2 : starEach [.Name n p4, .Name x1 p5] Y.env = (false, eval (.Name n p4) Y.env) :: starEach [.Name x1 p5] Y.env := by rfl)
    (hs3 : starEach [.Name x1 p5] Y.env = (false, eval (.Name x1 p5) Y.env) :: starEach [] Y.env := by rfl)
    (hp2 : (backTo p6 (starEach [.Name x1 p5] Y.env)).any (·.1) = false := by rfl) :
    PE Y (.Call (.Name "isinstance" p3) [.Name n p4, .Name x1 p5] [] p6) (fun σ H Q => σ[i]? = some (some (.ref a)) ∧ Q (.bl b) H) :=
  PE.imp (pe_callB (call_isP hp C hz hf) hgS hmS boot_isinstance (pa_cons (pe_var (i := i) hN hv hd hcd) (pa_cons (pe_glob (v := .ref (g c1)) hg1 hm1 rfl hd1) pa_nil hs3) hs2) (he := hs2) (hpl := hp2)) fun σ H Q ⟨h1, h2⟩ => ⟨_, h1, .ref (g c1), .ref (g c1), b, rfl, fun u r => r, hb, h2⟩
def tFlags (i : Nat) (a : Addr) (bs : List Bool) : TA := fun σ H Q => σ[i]? = some (some (.ref a)) ∧ Q (bs.map V.bl) H
theorem pa_flag0 : PA Y [] (tFlags i a []) := PA.imp pa_nil fun _ _ _ h => h.2
theorem pa_flag {e : Expr} (h1 : PE Y e (fun σ H Q => σ[i]? = some (some (.ref a)) ∧ Q (.bl b) H)) (h2 : PA Y es (tFlags i a bs)) (hs : starEach (e :: es) Y.env = (false, eval e Y.env) :: starEach es Y.env := by rfl) : PA Y (e :: es) (tFlags i a (b :: bs)) :=
  PA.imp (pa_cons h1 h2 hs) fun σ H Q ⟨z, q⟩ => ⟨z, z, q⟩
end
theorem repl_bls {g : Gm} {K : PySem.W.Frag} {S : Hp} : ∀ bs : List Bool, RepL g K S (bs.map V.bl) (bs.map D.bl)
  | [] => .nil
  | b :: bs => .cons (.bl b) (repl_bls bs)
theorem suite_flags {X : Cx} {g : Gm} {k : Nat → Bool} {i jf lv : Nat} {a : Addr} {oe : Obj} {pn : List (Addr × Obj)} {n xf nf : Str} {bs : List Bool} {es : List Expr} {cls : Value} {stF : Stmt} {fd : FuncData} {p p2 pos pos9 pl pr : Pos} {kl : Nat}
    (F : Fun X.K xf xf stF (g jf) fd) (Sc : FnScope [nf] [nf] (defScope stF)) (bF : Binds X.K fd [nf] []) (hz : L2N.Zn cls none oe) (hfv : ∃ vs, oe.data = .fields vs) (hr : Room lv X.A) (hgf : Gl X xf) (hmf : X.mg xf = some (.ref (g jf))) (hdf : (xf == ("__debug__" : Str)) = false)
    (hbody : defBody stF = [.Return (some (.List es pl)) pr]) (hlen : bs.length ≤ 100)
    (hargs : ∀ (cdv : Value) (s : Shared) (H : Hp), PA (cxH (L2N.CX X.prog X.w) X.prog X.w X.K X.mg X.base [nf] xf (defScope stF) (g jf) cdv (X.suite a ((a, oe) :: pn)).A (X.suite a ((a, oe) :: pn)).stack s H (fun _ _ _ => False) (a, oe)) es (tFlags 0 a bs))
    (hN : X.N[i]? = some n) (hv : Vis X.env.scope n) (hd : (n == ("__debug__" : Str)) = false) (hcd : (n == ("__classdict__" : Str)) = false)
    (hs : starEach [.Name n p2] X.env = (false, eval (.Name n p2) X.env) :: starEach [] X.env := by rfl) (hpl : (backTo pos (starEach [] X.env)).any (·.1) = false := by rfl) :
    PSs (X.suite a ((a, oe) :: pn)) [.Return (some (.Call (.Name xf p) [.Name n p2] [] pos)) pos9] (LSu g X.K k i a fun τ => .ok (.fr (.lst (bs.map D.bl))) τ) := by
  have he : PE (X.suite a ((a, oe) :: pn)) (.Call (.Name xf p) [.Name n p2] [] pos) (fun σ H Q => σ[i]? = some (some (.ref a)) ∧ ∀ q, H q = none → Q (.ref q) (upd H q (.lst (bs.map V.bl)))) := by
    refine ⟨fun pins s σ H Q I ⟨h1, h2⟩ => wpAny_Call_Name_kw (ld_glob (X := X.suite a ((a, oe) :: pn)) I hgf hmf ?_ hdf)⟩
    refine PySem.W.callWith_K (h₀ := X.base) I.ok.mod.kin F.kp (thn ((pa_cons (pe_var (X := X.suite a ((a, oe) :: pn)) (i := i) hN hv hd hcd) pa_nil hs).run pos pins s σ H (fun vs H1 => vs = [.ref a] ∧ H1 = H) I ⟨_, h1, rfl, rfl⟩) fun us s1 ⟨vs, H1, I1, r, ev, eH⟩ => ⟨I1.kIn, ?_⟩) hs hpl
    subst ev eH
    obtain ⟨vs2, hv2⟩ := hfv
    have hot : Hot1 (X.suite a ((a, oe) :: pn)).A (a, oe) := ⟨rfl, vs2, hv2, hz.2.2 vs2 hv2⟩
    refine run_hotP (Y := X.suite a ((a, oe) :: pn)) (k := lv) F Sc hot List.mem_cons_self ⟨hr.dp, hr.un⟩ bF I1 r rfl fun cdv => ⟨_, by rw [hbody]; exact pss_one (ps_ret (pe_lst (hargs cdv s1 H1))), ?_⟩
    refine ⟨rfl, ?_, fun q hq => h2 q hq⟩
    rw [List.length_map]
    exact Nat.le_trans hlen (by decide)
  refine PSs.imp (pss_one (ps_ret he)) fun D σ H ⟨hσ, τ, S, A, h⟩ => ⟨hσ, fun q hq => ?_⟩
  have nS : S q = none := A.le.free hq
  refine h σ (.ref q) _ S (A.priv hq _) (A.ext_priv hq _) .refl (.fr (.inr hq) upd_same nS (fun z => ?_) (.lst (repl_bls bs)))
  obtain ⟨o, z⟩ := A.own_some z
  rw [hq] at z
  cases z
end DL
set_option maxHeartbeats 1000000
namespace DL
open PySem PySem.Spec PyProof.Rows L2
def inB (a b : D) : Option Bool := (pyD a).bind fun p => match b with
  | .lst ds => (pyDs ds).bind fun qs => if SeqAt.shaped p = true ∧ SeqAt.shaped (.list qs) = true then some (qs.any fun z => PyData.eqv z p) else none
  | .tup ds => (pyDs ds).bind fun qs => if SeqAt.shaped p = true ∧ SeqAt.shaped (.list qs) = true then some (qs.any fun z => PyData.eqv z p) else none
  | _ => none
def inD (a b : D) : Option RV := (inB a b).map fun c => .dat (.bl c)
def notInD (a b : D) : Option RV := (inB a b).map fun c => .dat (.bl (!c))
section
variable {X : Cx} {g : Gm}
theorem inB_ok {a b : D} {c : Bool} (h : inB a b = some c) : ∃ p qs, pyD a = some p ∧ SeqAt.shaped p = true ∧ SeqAt.shaped (.list qs) = true ∧ qs.any (fun z => PyData.eqv z p) = c ∧ (pyD b = some (.list qs) ∨ pyD b = some (.tuple qs)) := by
  unfold inB at h
  cases q : pyD a with
  | none => rw [q] at h; cases h
  | some p =>
    rw [q] at h
    cases b with
    | lst ds =>
      cases q2 : pyDs ds with
      | none => simp [q2] at h
      | some qs =>
        simp only [Option.bind_some, q2] at h
        by_cases hc : SeqAt.shaped p = true ∧ SeqAt.shaped (.list qs) = true
        · rw [if_pos hc] at h
          exact ⟨p, qs, rfl, hc.1, hc.2, Option.some.inj h, .inl (by unfold pyD; rw [q2]; rfl)⟩
        · rw [if_neg hc] at h; cases h
    | tup ds =>
      cases q2 : pyDs ds with
      | none => simp [q2] at h
      | some qs =>
        simp only [Option.bind_some, q2] at h
        by_cases hc : SeqAt.shaped p = true ∧ SeqAt.shaped (.list qs) = true
        · rw [if_pos hc] at h
          exact ⟨p, qs, rfl, hc.1, hc.2, Option.some.inj h, .inr (by unfold pyD; rw [q2]; rfl)⟩
        · rw [if_neg hc] at h; cases h
    | _ => cases h
theorem opD_in (hu : X.A.units + 65 < cLine) : OpD X g (compareOp .In) inD := by
  intro pins s σ H τ S x y v u dx dy Q I rx ry A sx sy h
  obtain ⟨c, e, h⟩ := EndV.map_ h
  obtain ⟨p, qs, e1, s1, s2, rfl, e2 | e2⟩ := inB_ok e
  · exact op_inD hu pins s σ H _ _ v u Q I rx ry ⟨p, qs, sx.dp A.le e1, sy.dp A.le e2, s1, s2, h.here A (.bl _)⟩
  · obtain ⟨as, r1⟩ := Dp.reads I p x v (sx.dp A.le e1) rx
    obtain ⟨bs, r2⟩ := Dp.reads I (.tuple qs) y u (sy.dp A.le e2) ry
    exact SeqAt.in_tuple_reads r2 r1 (SeqAt.canLay_of_shaped s2) (SeqAt.canLay_of_shaped s1) (room_in_shaped s1 hu) ⟨.bl _, H, I, rfl, h.here A (.bl _)⟩
def mulE : D → D → Option RV
  | .int i, .int j => if CMul i j then some (.dat (.int (i * j))) else none
  | .lst a, .int k => if -1000000 ≤ k ∧ k ≤ 1000000 ∧ a.length * k.toNat ≤ bigN then some (.fr (.lst (List.replicate k.toNat a).flatten)) else none
  | .tup a, .int k => if a ≠ [] ∧ 2 ≤ k ∧ k ≤ 1000 ∧ a.length ≤ 1000 then some (.dat (.tup (List.replicate k.toNat a).flatten)) else none
  | _, _ => none
theorem opD_mulE : OpD X g (binaryOp .Mult) mulE := by
  intro pins s σ H τ S x y v u dx dy Q I rx ry A sx sy h
  unfold mulE at h
  split at h
  · exact opD_mul pins s σ H τ S x y v u _ _ Q I rx ry A sx sy h
  · exact opD_mul pins s σ H τ S x y v u _ _ Q I rx ry A sx sy h
  · obtain ⟨a, va, rfl, ha, ra⟩ := sx.tup A.le
    obtain rfl := sy.int
    obtain ⟨⟨h1, h2, h3, h4⟩, h⟩ := h.if_
    refine op_repT pins s σ H _ _ v u Q I rx ry ⟨_, _, va, rfl, rfl, ha, fun z => ?_, h2, h3, by rw [ra.length]; exact h4, h.tup A (ra.repl _)⟩
    subst z
    cases ra
    exact h1 rfl
  · exact h.elim
end
def seqOf : D → Option (List D)
  | .lst ds => some ds
  | .rol ds => some ds
  | .tup ds => some ds
  | _ => none
def kStar2 (ds : List D) (rs : List RV) (τ : DS) : Res (List RV) := .ok (ds.map RV.dat ++ rs) τ
def kStar (mr : DS → Res (List RV)) (r : RV) (τ : DS) : Res (List RV) := (ofO ((peek r τ).bind seqOf) τ).bind fun ds τ1 => (mr τ1).bind (kStar2 ds)
def mStar (ma : DS → Res RV) (mr : DS → Res (List RV)) : DS → Res (List RV) := fun τ => (ma τ).bind (kStar mr)
section
variable {X : Cx} {g : Gm} {W : WX} {e : Expr} {es : List Expr} {ma : DS → Res RV} {mr : DS → Res (List RV)} {p : Pos}
theorem reps_app {K : PySem.W.Frag} {σ : St} {τ : DS} {H0 H S : Hp} {us : List V} {rs : List RV} (x : RepVs g K σ τ H0 H S us rs) : ∀ {vs : List V} {ds : List D}, RepL g K S vs ds → RepVs g K σ τ H0 H S (vs ++ us) (ds.map RV.dat ++ rs)
  | [], [], _ => x
  | v :: vs, d :: ds, .cons r rl => .cons (.dat r) (reps_app x rl) fun c z => nomatch z
theorem da_star (ha : DE X g W e ma) (hr : DA X g W es mr) (hs : starEach (.Starred e p :: es) X.env = (true, eval e X.env) :: starEach es X.env := by rfl) : DA X g W (.Starred e p :: es) (mStar ma mr) := by
  refine ⟨PA.imp (StX.pa_star ha.pe hr.pa hs) fun σ H Q ⟨τ, S, A, h⟩ => ?_⟩
  refine ⟨τ, S, A, (FinP.bind h).mono fun τ1 r H1 S1 A1 e1 h1 v rv => ?_⟩
  unfold kStar at h1
  cases q : (peek r τ1).bind seqOf with
  | none => rw [q] at h1; exact h1.elim
  | some ds =>
    rw [q] at h1
    obtain ⟨d, q1, q2⟩ := Option.bind_eq_some_iff.mp q
    have sx := peek_ok A1 rv q1
    have st : ∃ a vs, v = .ref a ∧ (SqT X.K H1 a vs ∨ SqL X.K H1 a vs) ∧ RepL g X.K S1 vs ds := by
      cases d with
      | lst l => cases q2; obtain ⟨a, vs, e, hp, rl⟩ := sx.lst A1.le; exact ⟨a, vs, e, .inr (SqL.of hp), rl⟩
      | rol l => cases q2; obtain ⟨a, vs, e, hp, rl⟩ := sx.rol A1.le; exact ⟨a, vs, e, .inr hp, rl⟩
      | tup l => cases q2; obtain ⟨a, vs, e, hp, rl⟩ := sx.tup A1.le; exact ⟨a, vs, e, .inl hp, rl⟩
      | _ => cases q2
    obtain ⟨a, vs, rfl, hp, rl⟩ := st
    have h1' : FinP g X.K W σ τ1 H1 S1 ((mr τ1).bind (kStar2 ds)) fun τ' rs H' S' => ∀ vs, RepVs g X.K σ τ' H H' S' vs rs → Q vs H' := h1
    refine ⟨a, vs, rfl, hp, τ1, S1, A1, (FinP.bind h1').mono fun τ2 rs H2 S2 A2 e2 h2 us rus => ?_⟩
    have old : ∀ {vs : List V} {rs : List RV}, RepVs g X.K σ τ2 H1 H2 S2 vs rs → RepVs g X.K σ τ2 H H2 S2 vs rs := by
      intro vs rs x
      induction x with
      | nil => exact .nil
      | cons a _ ne ih => exact .cons (a.older e1.al) ih ne
    exact FinP.here A2 h2 _ (reps_app (old rus) (rl.mono e2.st))
end
section
variable {X : Cx} {g : Gm} {W : WX} {e : Expr} {ma : DS → Res (List RV)} {pos p tpos : Pos} {elts : List Expr} {kk : Nat}
theorem enumL_len : ∀ (n : Nat) (ds : List D), (enumL n ds).length = ds.length
  | _, [] => rfl
  | n, _ :: ds => congrArg (· + 1) (enumL_len (n + 1) ds)
end
end DL
set_option maxHeartbeats 1000000
namespace DL
open PySem PySem.Spec PyProof.Rows L2
section
variable {prog : Program} {w : World} {A : Around} {E : Value → Shared → Prop} {s : Shared}
def zCh (z TO i1 i2 c : Addr) : Prop := c = z ∨ c = TO ∨ c = i1 ∨ c = i2
structure ZAt (z TI TO i1 i2 l1 l2 : Addr) (xs ys : Array Value) (n : Nat) (h : Heap) : Prop where
  z : (n = 0 ∧ IsZip h z TI TO .none ∧ ∃ a b, IsPair h TO a b) ∨ ∃ T f oT, IsZipHeld h z TI TO T f ∧ h.get? T = some oT ∧ ¬ zCh z TO i1 i2 T
  ti : IsPair h TI (.ref i1) (.ref i2)
  a1 : h.IsTupleIter i1 l1 n
  a2 : h.IsTupleIter i2 l2 n
  b1 : h.IsTuple l1 xs
  b2 : h.IsTuple l2 ys
  to : ∃ o, h.get? TO = some o
variable {z TI TO i1 i2 l1 l2 : Addr} {xs ys : Array Value} {n : Nat}
theorem ZAt.keep {h h' : Heap} (Z : ZAt z TI TO i1 i2 l1 l2 xs ys n h) {S : Addr} (k : ∀ c o, c ≠ S → h.get? c = some o → h'.get? c = some o) (n1 : z ≠ S) (n2 : TI ≠ S) (n3 : TO ≠ S) (n4 : i1 ≠ S) (n5 : i2 ≠ S) (n6 : l1 ≠ S) (n7 : l2 ≠ S) (n8 : ∀ T f, IsZipHeld h z TI TO T f → T ≠ S) : ZAt z TI TO i1 i2 l1 l2 xs ys n h' where
  z := Z.z.imp (fun ⟨e, q, a, b, r⟩ => ⟨e, k _ _ n1 q, a, b, k _ _ n3 r⟩) fun ⟨T, f, oT, q, r, t⟩ => ⟨T, f, oT, k _ _ n1 q, k _ _ (n8 T f q) r, t⟩
  ti := k _ _ n2 Z.ti
  a1 := Z.a1.at fun o e => k _ _ n4 e
  a2 := Z.a2.at fun o e => k _ _ n5 e
  b1 := Z.b1.at fun o e => k _ _ n6 e
  b2 := Z.b2.at fun o e => k _ _ n7 e
  to := Z.to.imp fun o e => k _ _ n3 e
end
end DL
set_option maxHeartbeats 1000000
namespace DL
open PySem PySem.Spec PyProof.Rows L2
end DL
set_option maxHeartbeats 1000000
namespace DL
open PySem PySem.Spec PyProof.Rows L2
theorem units65 {k : Nat} {A : Around} (hr : Room k A) : A.units + 65 < cLine := by have := hr.un; omega
section
variable {τ : DS} {ma : DS → Res RV} {ms : DS → Res (List RV)} {x : RV} {ds l m : List D} {rs : List RV} {n : Nat} {tgs : List D → DS → Option DS} {k j : Int}
theorem v_star : mStar ma ms τ = (ma τ).bind (kStar ms) := (rfl)
def pkS (r : Option D) : Option (List D) := match r with
  | some d => seqOf d
  | none => none
def kStar1 (mr : DS → Res (List RV)) (ds : List D) (τ : DS) : Res (List RV) := (mr τ).bind (kStar2 ds)
theorem v_kstar : kStar ms x τ = (ofO (pkS (peek x τ)) τ).bind (kStar1 ms) := by
  unfold kStar pkS kStar1
  cases peek x τ <;> rfl
theorem v_pks_l : pkS (some (.lst l)) = some l := (rfl)
theorem v_pks_r : pkS (some (.rol l)) = some l := (rfl)
theorem v_pks_t : pkS (some (.tup l)) = some l := (rfl)
theorem v_kstar1 : kStar1 ms ds τ = (ms τ).bind (kStar2 ds) := (rfl)
theorem v_kstar2 : kStar2 ds rs τ = .ok (ds.map RV.dat ++ rs) τ := (rfl)
theorem all_dats : ∀ (ds : List D) (rs : List RV) (τ : DS), forceAll (ds.map RV.dat ++ rs) τ = (forceAll rs τ).bind fun es τ2 => .ok (ds ++ es) τ2
  | [], rs, τ => by
    show forceAll rs τ = _
    cases forceAll rs τ <;> rfl
  | d :: ds, rs, τ => by
    show (Res.ok d τ).bind _ = _
    show (forceAll (ds.map RV.dat ++ rs) τ).bind _ = _
    rw [all_dats ds rs τ]
    cases forceAll rs τ <;> rfl
theorem v_zip_l : zipD [.lst l, .lst m] τ = .ok ((l.zip m).map fun p => .tup [p.1, p.2]) τ := (rfl)
theorem v_zip_t : zipD [.tup l, .tup m] τ = .ok ((l.zip m).map fun p => .tup [p.1, p.2]) τ := (rfl)
theorem v_mulE_i (h : L2.CMul k j) : mulE (.int k) (.int j) = some (.dat (.int (k * j))) := if_pos h
theorem v_mulE_t (h : l ≠ [] ∧ 2 ≤ k ∧ k ≤ 1000 ∧ l.length ≤ 1000) : mulE (.tup l) (.int k) = some (.dat (.tup (List.replicate k.toNat l).flatten)) := if_pos h
theorem v_mulE_l (h : -1000000 ≤ k ∧ k ≤ 1000000 ∧ l.length * k.toNat ≤ bigN) : mulE (.lst l) (.int k) = some (.fr (.lst (List.replicate k.toNat l).flatten)) := if_pos h
end
end DL
set_option maxHeartbeats 1000000
namespace DL
open PySem PySem.Spec PyProof.Rows L2
def kPar3s (i j l : Nat) (ds : List D) (τ : DS) : SRes := match ds with
  | [a, b, c] => .nx (((τ.set i (.dat a)).set j (.dat b)).set l (.dat c))
  | _ => .stuck
def mPar3 (i j l : Nat) (ma : DS → Res (List RV)) : DS → SRes := fun τ => (mFast ma (fun ds τ => .ok ds τ) τ).toS (kPar3s i j l)
section
variable {X : Cx} {g : Gm} {W : WX} {k : Nat → Bool} {pos : Pos}
theorem ds_par3 (i j l : Nat) {x y z : Str} {a b c : Expr} {ma : DS → Res (List RV)} {px py pz pt : Pos} {kt k2 pt2} (hc : X.calm = true) (hN : X.N.Nodup) (ha : DA X g W [a, b, c] ma) (hki : k i = false := by rfl) (hkj : k j = false := by rfl) (hkl : k l = false := by rfl) (hi : X.N[i]? = some x := by rfl) (hj : X.N[j]? = some y := by rfl) (hl : X.N[l]? = some z := by rfl) (hij : i ≠ j := by decide) (hil : i ≠ l := by decide) (hjl : j ≠ l := by decide)
    (hx : X.env.scope.names.lookup x = some .local := by rfl) (hy : X.env.scope.names.lookup y = some .local := by rfl) (hz : X.env.scope.names.lookup z = some .local := by rfl)
    (hw : swappedStores [.Tuple [.Name x px, .Name y py, .Name z pz] kt pt] (.Tuple [a, b, c] k2 pt2) X.env = pure (some [x, y, z]) := by rfl)
    (hs : swapsWithSole [.Tuple [.Name x px, .Name y py, .Name z pz] kt pt] (.Tuple [a, b, c] k2 pt2) pos.line X.env = pure false := by rfl) :
    DSt X g W k (.Assign [.Tuple [.Name x px, .Name y py, .Name z pz] kt pt] (.Tuple [a, b, c] k2 pt2) pos) (mPar3 i j l ma) := by
  refine ⟨PS.imp (ps_par3 hc hN hi hj hl hij hil hjl hx hy hz ha.pa hw hs) fun D σ H ⟨τ, S, A, h⟩ => ⟨τ, S, A, ?_⟩⟩
  refine (LA.fast (FinS.toS h)).mono fun τ1 rs H1 S1 A1 e1 q vs rvs => ?_
  obtain ⟨τ2, S2, ds, A2, e2, rl, h2⟩ := q vs rvs
  have h3 := FinP.here A2 h2
  match vs, ds, rl, h3 with
  | [v1, v2, v3], [d1, d2, d3], .cons r1 (.cons r2 (.cons r3 .nil)), h3 =>
    obtain ⟨B1, f1⟩ := A2.set i r1
    obtain ⟨B2, f2⟩ := B1.set j r2
    obtain ⟨B3, f3⟩ := B2.set l r3
    exact ⟨v1, v2, v3, rfl, h3 _ _ _ B3 ((f1.trans f2).trans f3) (((Pr.set hki).trans (Pr.set hkj)).trans (Pr.set hkl))⟩
  | [], [], .nil, h3 => exact h3.elim
  | [_], [_], .cons _ .nil, h3 => exact h3.elim
  | [_, _], [_, _], .cons _ (.cons _ .nil), h3 => exact h3.elim
  | _ :: _ :: _ :: _ :: _, _ :: _ :: _ :: _ :: _, .cons _ (.cons _ (.cons _ (.cons _ _))), h3 => exact h3.elim
theorem v_par3 {i j l : Nat} {ma : DS → Res (List RV)} {τ : DS} : mPar3 i j l ma τ = (mFast ma (fun ds τ => .ok ds τ) τ).toS (kPar3s i j l) := (rfl)
theorem v_kpar3s {i j l : Nat} {a b c : D} {τ : DS} : kPar3s i j l [a, b, c] τ = .nx (((τ.set i (.dat a)).set j (.dat b)).set l (.dat c)) := (rfl)
end
end DL
namespace HT
open PySem PySem.Calls PyProof PyProof.Rows
section
variable {prog : Program} {w : World} {A : Around} {E : Value → Shared → Prop} {s : Shared}
theorem places_rev (n : Nat) : Builtin.Slice.slicePlaces ((n : Int) - 1) (-1) (-1) = n := by
  unfold Builtin.Slice.slicePlaces
  have h1 : ¬ ((-1 : Int) > 0) := by omega
  simp only [h1, if_false]
  have e : ((n : Int) - 1 - -1 - 1) / (- -1) + 1 = n := by
    rw [show (- -1 : Int) = 1 by decide, Int.ediv_one]; omega
  split
  · rw [e]; exact Int.toNat_natCast n
  · omega
theorem fm_congr {α β : Type} {f g : α → Option β} : ∀ {l : List α}, (∀ x ∈ l, f x = g x) → l.filterMap f = l.filterMap g
  | [], _ => rfl
  | a :: l, h => by
    rw [List.filterMap_cons, List.filterMap_cons, h a List.mem_cons_self, fm_congr fun x m => h x (List.mem_cons_of_mem _ m)]
theorem pick_rev (xs : Array Value) : ((List.range xs.size).filterMap fun (m : Nat) => xs[((xs.size : Int) - 1 + (m : Int) * (-1)).toNat]?).toArray = xs.toList.reverse.toArray := by
  have h := PySem.W.krv_pick xs
  unfold slicePick at h
  rw [PySem.W.krv_bounds] at h
  rw [← h]
  show _ = ((sliceRange ((xs.size : Int) - 1) (-1) (-1)).filterMap (xs[·]?)).toArray
  rw [PySem.W.krv_sliceRange, List.filterMap_map]
  refine congrArg List.toArray (fm_congr fun m hm => ?_)
  have := List.mem_range.mp hm
  show xs[((xs.size : Int) - 1 + (m : Int) * (-1)).toNat]? = xs[xs.size - 1 - m]?
  congr 1
  omega
theorem sliceApplied_rev {sl : Addr} {vl vu vs : Value} {n : Nat} {Q : Int × Int × Nat → Shared → Prop} (hs : s.heap.IsSliceOf sl vl vu vs) (pl : IsPart vl none) (pu : IsPart vu none) (ps : IsPart vs (some (-1)))
    (h : Q ((n : Int) - 1, -1, n) s) : wpAny (model prog w) A (Builtin.Slice.sliceApplied (.ref sl) (pure (n : Int))) Q E s := by
  obtain ⟨os, hos, hcs, hds⟩ := id hs
  unfold Builtin.Slice.sliceApplied Builtin.Slice.sliceFields
  refine wpAny_bind (wpAny_bind (wpAny_field hos hds (x := vl) rfl (wpAny_bind (wpAny_field hos hds (x := vu) rfl (wpAny_bind (wpAny_field hos hds (x := vs) rfl (wpAny_pure ?_)))))))
  refine wpAny_bind (slicePart_ ps ?_)
  show wpAny _ _ (if ((-1 : Int) == 0) = true then _ else _) _ _ s
  rw [if_neg (by decide)]
  refine wpAny_bind (slicePart_ pl (wpAny_bind (slicePart_ pu (wpAny_bind (wpAny_pure ?_)))))
  show wpAny _ _ (pure ((n : Int) - 1, (-1 : Int), Builtin.Slice.slicePlaces ((n : Int) - 1) (-1) (-1))) _ _ s
  rw [places_rev]
  exact wpAny_pure h
theorem getItem_tuple_rev {t sl : Addr} {items : Array Value} {vl vu vs : Value} {Q : Value → Shared → Prop} (ht : IsTup s.heap t items) (hs : s.heap.IsSliceOf sl vl vu vs) (pl : IsPart vl none) (pu : IsPart vu none) (ps : IsPart vs (some (-1)))
    (h : Q (.ref s.heap.objs.size) { s with heap := s.heap.push { cls := .type "tuple", data := .seq items.toList.reverse.toArray } })
    (hsz : items.size ≤ sizeLine) : wpAny (model prog w) A (getItem (.ref t) (.ref sl)) Q E s := by
  have htake : sizeOk (.seq items.toList.reverse.toArray) := by
    show items.toList.reverse.toArray.size ≤ sizeLine
    rw [List.size_toArray, List.length_reverse, Array.length_toList]
    exact hsz
  obtain ⟨os, hos, hcs, hds⟩ := id hs
  have hTs : s.TypeIs (.ref sl) "slice" := ⟨os, hos, hcs⟩
  unfold getItem
  try with_reducible refine wpAny_holding ?_
  first | refine wpAny_bind (wpAny_pure ?_) | skip
  refine wpAny_bind (wpAny_sequenceKey ht.typeIs (by decide) ?_)
  refine wpAny_bind (wpAny_callSpecial?_slot (name := Str.ofString "__getitem__") ht.typeIs PyProof.Rows.slot_tuple_getitem
    (wpAny_call_entry PyProof.Rows.slot_tuple_getitem ht.typeIs entry_tuple_getitem ?_ (args_tuple_getitem _ _)))
  show wpAny _ _ (Builtin.Tuple.tupleItemsOf (.ref t) >>= _) _ _ s
  refine wpAny_bind (tupleItemsOf_ ht ?_)
  refine wpAny_bind (wpAny_typeOf hTs ?_)
  rw [if_pos (by decide)]
  refine wpAny_bind (sliceApplied_rev hs pl pu ps ?_)
  have hno : ¬ ((((items.size : Int) - 1) == 0 && (-1 : Int) == 1 && items.size == items.size) = true) := by
    intro q
    rw [Bool.and_eq_true, Bool.and_eq_true] at q
    exact absurd q.1.2 (by decide)
  show wpAny _ _ (if (((items.size : Int) - 1) == 0 && (-1 : Int) == 1 && items.size == items.size) = true then _ else _) _ _ s
  rw [if_neg hno, pick_rev]
  first
    | exact wpAny_bind (m := Builtin.Tuple.tupleExact _) (wpAny_newObj_type (wpAny_pure ⟨_, rfl, wpAny_pure h⟩) htake)
    | exact wpAny_bind (m := Builtin.Tuple.tupleExact _) (wpAny_newObj_type (wpAny_bind (wpAny_pure (wpAny_pure ⟨_, rfl, wpAny_pure h⟩))) htake)
    | exact wpAny_bind (wpAny_bind (m := Builtin.Tuple.tupleExact _) (wpAny_newObj_type (wpAny_pure (wpAny_pure ⟨_, rfl, wpAny_pure h⟩)) htake))
    | exact wpAny_bind (wpAny_bind (m := Builtin.Tuple.tupleExact _) (wpAny_newObj_type (wpAny_pure ⟨_, rfl, wpAny_pure h⟩) htake))
end
end HT
namespace DL
open PySem PySem.Spec PyProof PyProof.Rows L2
section
variable {X : Cx}
def tRevT (K : PySem.W.Frag) (te : TE) : TE := fun σ H Q => te σ H fun x H1 => ∃ a xs, x = .ref a ∧ ((SqL K H1 a xs ∧ ∀ p, H1 p = none → Q (.ref p) (upd H1 p (.lst xs.reverse))) ∨ (SqT K H1 a xs ∧ ∀ p, H1 p = none → Q (.ref p) (upd H1 p (.tup xs.reverse))))
theorem pe_revT {e : Expr} {te : TE} {k : Nat} {p1 p2 p3 pos : Pos} (he : PE X e te) : PE X (.Subscript e (.Slice none none (some (.UnaryOp .USub (.Constant (.int 1) k p1) p2)) p3) pos) (tRevT X.K te) := by
  refine ⟨fun pins s σ H Q I h => ?_⟩
  refine Subscript_ (thn (he.run pins s σ H _ I h) fun v s1 ⟨x, H1, I1, r1, q1⟩ => ?_)
  obtain ⟨a, xs, ex, q⟩ := q1
  subst ex
  cases r1
  have hst : PO X (some (.UnaryOp .USub (.Constant (.int 1) k p1) p2)) (tPart (tUn (rU fun i => .int (-i)) (tC (.int 1)))) := po_some (pe_un un_neg pe_int)
  refine wpAny_Slice (thn (po_none.run pins s1 σ H1 (fun o H2 => o = none ∧ H2 = H1) I1 ⟨rfl, rfl⟩) fun vl s2 ⟨l, H2, I2, pl, el, e2⟩ => ?_)
  subst el e2
  refine thn (po_none.run pins s2 σ H2 (fun o H3 => o = none ∧ H3 = H2) I2 ⟨rfl, rfl⟩) fun vu s3 ⟨u, H3, I3, pu, eu, e3⟩ => ?_
  subst eu e3
  refine thn (hst.run pins s3 σ H3 (fun o H4 => o = some (-1) ∧ H4 = H3) I3 ⟨1, rfl, -1, rfl, rfl, rfl⟩) fun vs s4 ⟨o, H4, I4, ps, eo, e4⟩ => ?_
  subst eo e4
  have I5 : Inv X pins σ H4 { s4 with heap := s4.heap.push { cls := .type "slice", data := .fields #[vl, vu, vs] } } := I4.kept (t' := s4.toks) fun b ob q => Heap.get?_push_of_some _ q
  show wpAny (model X.prog X.w) X.A (subscriptTail e (.Slice none none (some (.UnaryOp .USub (.Constant (.int 1) k p1) p2)) p3) (.ref a) (.ref s4.heap.objs.size)) (EP X pins σ Q) X.xe { s4 with heap := s4.heap.push { cls := .type "slice", data := .fields #[vl, vu, vs] } }
  rcases q with ⟨hx, q⟩ | ⟨hx, q⟩
  · obtain ⟨its, r, ht, hz⟩ := I5.list hx
    have hlen := r.length
    refine tail_any (ops := [.ref a, .ref s4.heap.objs.size]) ht.isList.typeIs (PySem.slot_list_getitem.lookup) ?_ (by with_unfolding_all rfl)
    refine wpAny_getItem_list_slice ht.isList (Heap.IsSliceOf.new _ vl vu vs) pl pu ps (by decide) ?_ (by rw [List.size_toArray]; omega)
    rw [PySem.W.krv_pick]
    refine ⟨.ref _, _, I5.laid (t' := s4.toks) (o := .lst xs.reverse) (fun b ob q => Heap.get?_push_of_some _ q) (Nat.le_refl _) ?_, rfl, q _ (I5.hok.fresh (Nat.le_refl _))⟩
    exact ⟨by rw [List.length_reverse]; exact hz, _, 0, r.reverse, Heap.get?_push_size _ rfl⟩
  · obtain ⟨its, r, ht, hz⟩ := I5.tuple hx
    have hlen := r.length
    refine tail_any (ops := [.ref a, .ref s4.heap.objs.size]) ht.typeIs (PyProof.Rows.slot_tuple_getitem.lookup) ?_ (by with_unfolding_all rfl)
    refine HT.getItem_tuple_rev ht (Heap.IsSliceOf.new _ vl vu vs) pl pu ps ?_ (by rw [List.size_toArray]; omega)
    refine ⟨.ref _, _, I5.laid (t' := s4.toks) (o := .tup xs.reverse) (fun b ob q => Heap.get?_push_of_some _ q) (Nat.le_refl _) ?_, rfl, q _ (I5.hok.fresh (Nat.le_refl _))⟩
    exact ⟨by rw [List.length_reverse]; exact hz, _, r.reverse, IsTup.new _ _⟩
end
def rsmD (d : D) : Option RV := match d with
  | .lst ds => some (.fr (.lst ds.reverse))
  | .rol ds => some (.fr (.lst ds.reverse))
  | .tup ds => some (.dat (.tup ds.reverse))
  | _ => none
def mRevT (me : DS → Res RV) : DS → Res RV := mUn rsmD me
theorem v_revT {ma : DS → Res RV} {τ : DS} : mRevT ma τ = (ma τ).bind (op1 rsmD) := (rfl)
theorem v_rsl {l : List D} : rsmD (.lst l) = some (.fr (.lst l.reverse)) := (rfl)
theorem v_rsr {l : List D} : rsmD (.rol l) = some (.fr (.lst l.reverse)) := (rfl)
theorem v_rst {l : List D} : rsmD (.tup l) = some (.dat (.tup l.reverse)) := (rfl)
section
variable {X : Cx} {g : Gm} {W : WX} {a : Expr} {ma : DS → Res RV} {pos : Pos}
theorem de_revT {k : Nat} {p1 p2 p3 : Pos} (ha : DE X g W a ma) : DE X g W (.Subscript a (.Slice none none (some (.UnaryOp .USub (.Constant (.int 1) k p1) p2)) p3) pos) (mRevT ma) := by
  refine ⟨PE.imp (pe_revT ha.pe) fun σ H Q h => (one h).mono fun x H1 ⟨τ, S, dx, A, sx, e⟩ => ?_⟩
  unfold rsmD at e
  split at e
  · obtain ⟨p, vs, rfl, hp, r⟩ := sx.lst A.le
    exact ⟨p, vs, rfl, .inl ⟨SqL.of hp, e.lst A r.reverse⟩⟩
  · obtain ⟨p, vs, rfl, hp, r⟩ := sx.rol A.le
    exact ⟨p, vs, rfl, .inl ⟨hp, e.lst A r.reverse⟩⟩
  · obtain ⟨p, vs, rfl, hp, r⟩ := sx.tup A.le
    exact ⟨p, vs, rfl, .inr ⟨hp, e.tup A r.reverse⟩⟩
  · exact e.elim
end
end DL
namespace DL
open PySem PySem.Spec PyProof PyProof.Rows L2
section
variable {p q : Int → Int → Bool} {ma mb mc : DS → Res RV} {τ : DS} {x : RV} {i j l : Int}
def kCh4 (q : Int → Int → Bool) (j : Int) (z : RV) (τ : DS) : Res RV := match asInt z with
  | some l => .ok (.dat (.bl (q j l))) τ
  | none => .stuck
def kCh3 (q : Int → Int → Bool) (mc : DS → Res RV) (j : Int) (b : Bool) (τ : DS) : Res RV := if b = true then (mc τ).bind (kCh4 q j) else .ok (.dat (.bl false)) τ
def kCh2 (p q : Int → Int → Bool) (mc : DS → Res RV) (x : RV) (y : RV) (τ : DS) : Res RV := match asInt x, asInt y with
  | some i, some j => kCh3 q mc j (p i j) τ
  | _, _ => .stuck
def kCh1 (p q : Int → Int → Bool) (mb mc : DS → Res RV) (x : RV) (τ : DS) : Res RV := (mb τ).bind (kCh2 p q mc x)
theorem v_chain : mChain p q ma mb mc τ = (ma τ).bind (kCh1 p q mb mc) := (rfl)
theorem v_kch1 : kCh1 p q mb mc x τ = (mb τ).bind (kCh2 p q mc x) := (rfl)
theorem v_kch2 : kCh2 p q mc (.dat (.int i)) (.dat (.int j)) τ = kCh3 q mc j (p i j) τ := (rfl)
theorem v_kch3t : kCh3 q mc j true τ = (mc τ).bind (kCh4 q j) := (rfl)
theorem v_kch3f : kCh3 q mc j false τ = .ok (.dat (.bl false)) τ := (rfl)
theorem v_kch4 : kCh4 q j (.dat (.int l)) τ = .ok (.dat (.bl (q j l))) τ := (rfl)
theorem v_max2 : maxD [.int i, .int j] = some (.dat (.int (if j > i then j else i))) := (rfl)
end
end DL
set_option maxHeartbeats 3200000
namespace DL
open PySem PySem.Spec PyProof.Rows L2
section
variable {P : Program} {w : World} {A : Around} {E : Value → Shared → Prop} {s : Shared}
abbrev set0 (w : World) : Obj := ⟨.type "set", none, .set #[] 0 (.fresh 0 0 (!w.params.followText "set-order")), #[]⟩
theorem set_of_tup {t : Addr} {its : Array Value} (rows : List (Addr × List Int)) {Q : Value → Shared → Prop} (quiet : A.handled = none) (ht : s.heap.IsTuple t its) (hi : its.toList = rows.map fun p => Value.ref p.1)
    (keys : ∀ p ∈ rows, IsT P w s.heap p.2 p.1) (few : rows.length < 64) (room : A.units + 3 < cLine)
    (fin : ∀ (g : Heap) (tk : Nat) M es ep tb, SetTR P w g s.heap.objs.size M es ep tb → Got rows rows.length M → (∀ b o, s.heap.get? b = some o → g.get? b = some o) → Q (.ref s.heap.objs.size) { s with heap := g, toks := tk }) :
    wpAny (model P w) A (call (.type "set") [.ref t]) Q E s := by
  have sz : its.size = rows.length := by rw [← Array.length_toList, hi, List.length_map]
  obtain ⟨c0, tl0, m0⟩ := F.called_set.mro
  have d1 := F.called_set.made
  have d2 := F.called_set.sub
  have d3 := F.called_set.notType
  have d4 := F.called_set.canCreate
  refine wpAny_call (codeAny_of_tree ?_)
  show wpAny _ _ (callAny (.type "set") _) _ _ _
  refine wpAny_pure ⟨Code.quiet_builtin _ (by decide +kernel), codeAny_builtin F.entry_type_call ?_⟩
  rw [Around.under_plain (weight_type_call_type "set" [.ref t] []) rfl]
  have d5 := F.typeCall_set_1 (.ref t)
  repeat (any_goals (first | assumption | wp_step))
  refine codeAny_mono (code_set_led1 (.ref t) (E := E) (Q₁ := fun ob z => ob = .ref s.heap.objs.size ∧ z = { s with heap := s.heap.push (set0 w) }) ⟨rfl, rfl⟩) fun r z hr => ?_
  cases r with
  | error e => exact hr
  | ok fl =>
    cases fl with
    | ret ob =>
      obtain ⟨rfl, rfl⟩ := hr
      have gS : (s.heap.push (set0 w)).get? s.heap.objs.size = some (set0 w) := Heap.get?_push_size _ rfl
      have tS : Shared.TypeIs { s with heap := s.heap.push (set0 w) } (.ref s.heap.objs.size) "set" := ⟨_, gS, rfl⟩
      have d6 := F.called_set.init.lookup
      have d7 := F.called_set.init.bind (.ref s.heap.objs.size)
      repeat (any_goals (first | assumption | wp_step))
      refine codeAny_mono (codeAny_call_builtin (R := wants (fun r z2 => r = .none ∧ ∃ g tk M es ep tb, z2 = { s with heap := g, toks := tk } ∧ SetTR P w g s.heap.objs.size M es ep tb ∧ Got rows rows.length M ∧
          (∀ b o, s.heap.get? b = some o → g.get? b = some o)) E) F.called_set.init.plain F.entry_set_init (check_set_init_1 tS ?_)) fun r2 z2 hr2 => ?_
      · obtain ⟨ot, ho, hc, nt, hd⟩ := ht
        obtain ⟨oc, od, oda, os⟩ := ot
        simp only at hc hd
        subst hc; subst hd
        have ho' : (s.heap.push (set0 w)).get? t = some ⟨.type "tuple", od, .seq its nt, os⟩ := Heap.get?_push_of_some _ ho
        have d8 := F.sub_tuple_set
        have d9 := F.sub_tuple_frozenset
        have dn : (Value.type "tuple" == Value.type "dict") = false := by decide
        have t1 : (s.heap.push (set0 w)).IsTuple t its := ⟨_, ho', rfl, nt, rfl⟩
        unfold Builtin.«set.__init__» noKeywords Builtin.Frozenset.updateFrom
        generalize hPI : pyIter = PI
        wp_walk
        subst hPI
        refine wpAny_pyIter_tuple t1 ?_
        refine wpAny_bind (wpAny_runValue ?_)
        have lt : t < s.heap.objs.size := Heap.lt_size ho
        have q3 : A.in1.in1.in1.handled = none := by simp [quiet]
        have neI : t ≠ (s.heap.push (set0 w)).objs.size := by
          rw [Heap.size_push]; exact Nat.ne_of_lt (Nat.lt_succ_of_lt lt)
        have nin : s.heap.objs.size ∉ [(s.heap.push (set0 w)).objs.size, t] := by
          rw [Heap.size_push]
          intro hm
          rcases List.mem_cons.mp hm with q | q
          · exact Nat.ne_of_lt (Nat.lt_succ_self _) q
          · exact Nat.ne_of_gt lt (List.mem_singleton.mp q)
        have val : ∀ (i : Nat) (v : Value), its[i]? = some v → ∃ p, rows[i]? = some p ∧ v = .ref p.1 := fun i v hv => by
          have q : its.toList[i]? = some v := by simpa using hv
          rw [hi, List.getElem?_map] at q
          obtain ⟨p, h1, h2⟩ := Option.map_eq_some_iff.mp q
          exact ⟨p, h1, h2.symm⟩
        have out : ∀ b, s.heap.objs.size ≤ b → s.heap.get? b = none := fun b hb => by
          cases q : s.heap.get? b with
          | none => rfl
          | some o => exact absurd (Heap.lt_size q) (Nat.not_lt.mpr hb)
        refine set_update_tups ((Walks.tuple q3 _ t neI its).toS) s.heap.objs.size nin rows sz few val s.heap keys (out _ (Nat.le_refl _)) (fun b hb => out b (by rw [List.mem_singleton.mp hb, Heap.size_push]; omega)) room (its.size - 0) 0 _ (by omega) (Nat.zero_le _)
          ⟨⟨_, Heap.get?_push_size _ rfl, rfl, rfl⟩, t1.push _⟩ (fun b o e => Heap.get?_push_of_some _ (Heap.get?_push_of_some _ e)) ⟨[], #[], 0, _, setTR_fresh (Heap.get?_push_of_some _ gS), Got.zero rows⟩ ?_
        intro z3 M es ep tb mv hS hg kp
        obtain ⟨g, g2, dr, tk, os3⟩ := z3
        have e1 : g2 = s.gens := mv.gens
        have e2 : dr = s.drawn := mv.drawn
        have e3 : os3 = s.os := mv.os
        subst e1; subst e2; subst e3
        rw [sz] at hg
        show wpAny _ _ _ _ _ _
        refine wpAny_pure ?_
        show wpAny _ _ (ret Value.none) _ _ _
        exact wpAny_pure ⟨rfl, g, tk, M, es, ep, tb, rfl, hS, hg, kp⟩
      · cases r2 with
        | error e => exact hr2
        | ok fl2 =>
          cases fl2 with
          | ret r =>
            obtain ⟨rfl, g, tk, M, es, ep, tb, rfl, hS, hg, kp⟩ := hr2
            repeat (any_goals (first | assumption | wp_step))
            exact fin _ _ _ _ _ _ hS hg kp
          | _ => exact hr2.elim
    | _ => exact hr.elim
end
end DL
set_option maxHeartbeats 1600000
namespace DL
open PySem PySem.Spec PyProof.Rows L2
theorem reads_row {h : Heap} {vs : List Value} {ns : List Int} (x : IntsAre vs ns) : ReadsAll h vs (ns.map .int) [] := by
  induction x with
  | nil => exact .nil
  | cons n t _ ih => exact .cons (as := []) (.int n t) ih
def encT (q : Addr × List Int) : PyData := .tuple (q.2.map .int)
theorem encT_le : PySem.W.dataLe false encT = fun p q => decide (p.2 ≤ q.2) := by
  funext p q
  show (!PySem.W.dataLt (.tuple (q.2.map .int)) (.tuple (p.2.map .int))) = _
  rw [PySem.W.dataLt_tuple]
  show (!PySem.W.rowLt (q.2.map .int) (p.2.map .int)) = _
  rw [PySem.W.dataLt_ints]
  by_cases c : q.2 < p.2
  · rw [decide_eq_true c, decide_eq_false (fun r => List.not_lt.mpr r c)]; rfl
  · rw [decide_eq_false c, decide_eq_true (List.not_lt.mp c)]; rfl
theorem each_refs : ∀ M : List (Addr × List Int), PySem.W.EachIs (fun (v : Value) (q : Addr × List Int) => v = .ref q.1) (M.map fun q => Value.ref q.1) M
  | [] => .nil
  | _ :: M => .cons rfl (each_refs M)
theorem refs_each : ∀ {vs : List Value} {M : List (Addr × List Int)}, PySem.W.EachIs (fun (v : Value) (q : Addr × List Int) => v = .ref q.1) vs M → vs = M.map fun q => Value.ref q.1
  | _, _, .nil => rfl
  | _, _, .cons e t => by rw [List.map_cons, ← refs_each t, e]
theorem each_imp {R R' : Value → Addr × List Int → Prop} : ∀ {vs : List Value} {M : List (Addr × List Int)}, (∀ v q, q ∈ M → R v q → R' v q) → PySem.W.EachIs R vs M → PySem.W.EachIs R' vs M
  | _, _, _, .nil => .nil
  | _, _, h, .cons e t => .cons (h _ _ List.mem_cons_self e) (each_imp (fun v q hq => h v q (List.mem_cons_of_mem _ hq)) t)
section
variable {P : Program} {w : World} {A : Around} {E : Value → Shared → Prop} {s : Shared}
theorem sorted_of_set {a : Addr} {M : List (Addr × List Int)} {es : Array (Int × Value)} {ep : Nat} {tb : SetTable} {Q : Value → Shared → Prop} (S : SetTR P w s.heap a M es ep tb) (quiet : A.handled = none) (room : A.units + 9 < cLine)
    (full : ∀ p ∈ M, p.2 ≠ [])
    (fin : ∀ z p (out : Array Value) (c : Nat) (N : List (Addr × List Int)), (∀ b o, s.heap.get? b = some o → z.heap.get? b = some o) → z.gens = s.gens → z.os = s.os → s.heap.objs.size ≤ p →
      z.heap.get? p = some (seqObj "list" out c) → out.toList = N.map (fun q => Value.ref q.1) → N.Perm M → N.Pairwise (fun q r => q.2 ≤ r.2) → Q (.ref p) z) :
    wpAny (model P w) A (call (.builtin "sorted") [.ref a]) Q E s := by
  obtain ⟨o, ho, hx, hd⟩ := S.ob
  have few := S.few
  have esz := S.size
  refine Calls.call_function_entry kind_sorted plain_sorted entry_sorted (args_sorted1 _) ?_
  unfold Builtin.«sorted»
  refine wpAny_bind (m := checkCount "sorted" 1 1 _) (wpAny_pure ?_)
  refine wpAny_bind (collect_set (A := A.in1) quiet ⟨o, ho, hx.1, hd⟩ S.fits (by unfold scanBound; omega) S.tab.ris S.led fun s1 vs k1 z1 g1 o1 pm => ?_)
  have hes : es.toList.map (·.2) = M.map fun q => Value.ref q.1 := by
    rw [S.rows, rowsOf, List.map_map]
    rfl
  rw [hes] at pm
  have one : ∀ q, q ∈ M → ∀ r, r ∈ M → q.1 = r.1 → q = r := fun q hq r hr e => by
    have y1 := S.tup q hq
    rw [e] at y1
    exact Prod.ext e (IsTupleKey.inj y1 (S.tup r hr))
  obtain ⟨M1, p1, e1⟩ : ∃ M1 : List (Addr × List Int), M1.Perm M ∧ vs = M1.map fun q => Value.ref q.1 := by
    have back : ∀ {us ws : List Value}, us.Perm ws → ∀ W : List (Addr × List Int), ws = W.map (fun q => Value.ref q.1) → ∃ U : List (Addr × List Int), U.Perm W ∧ us = U.map fun q => Value.ref q.1 := by
      intro us ws pq
      induction pq with
      | nil => intro W e; cases W with
        | nil => exact ⟨[], .nil, rfl⟩
        | cons _ _ => cases e
      | cons x _ ih => intro W e; cases W with
        | nil => cases e
        | cons y W =>
          rw [List.map_cons] at e
          injection e with ea eb
          obtain ⟨U, pu, eu⟩ := ih W eb
          exact ⟨y :: U, pu.cons y, by rw [List.map_cons, ea, eu]⟩
      | swap x y _ => intro W e; match W, e with
        | y2 :: x2 :: W, e =>
          rw [List.map_cons, List.map_cons] at e
          injection e with ea eb
          injection eb with eb ec
          exact ⟨x2 :: y2 :: W, .swap y2 x2 W, by rw [List.map_cons, List.map_cons, ea, eb, ec]⟩
      | trans _ _ ih1 ih2 => intro W e
                             obtain ⟨U2, pu2, eu2⟩ := ih2 W e
                             obtain ⟨U1, pu1, eu1⟩ := ih1 U2 eu2
                             exact ⟨U1, pu1.trans pu2, eu1⟩
    exact back pm M rfl
  have nvs : vs.length = M1.length := by rw [e1, List.length_map]
  have m1 : M1.length < 64 := by rw [p1.length_eq]; exact few
  refine wpAny_bind (wpAny_newList ?_ (by rw [sizeLine_eq]; omega))
  have hL : (s1.heap.push (seqObj "list" vs.toArray 0)).get? s1.heap.objs.size = some (seqObj "list" vs.toArray 0) := Heap.get?_push_size _ rfl
  have hrd : ∀ q ∈ M1, Reads (s1.heap.push (seqObj "list" vs.toArray 0)) (.ref q.1) (encT q) [] := fun q hq => by
    obtain ⟨oq, its, nq, c1, c2, c3, c4⟩ := S.tup q (p1.mem_iff.mp hq)
    exact .tuple (Heap.get?_push_of_some _ (k1 _ _ c1)) c2 c3 (reads_row (ints_of_items c4))
  have EA : PySem.W.EachIs (fun (v : Value) (q : Addr × List Int) => v = .ref q.1) vs M1 := by rw [e1]; exact each_refs M1
  refine wpAny_bind (wpAny_holding (PySem.W.list_sort_data (s := { s1 with heap := s1.heap.push (seqObj "list" vs.toArray 0) }) (R := fun v q => v = .ref q.1) (enc := encT) (bs := M1) hL EA
    (each_imp (fun v q hq e => ⟨[], by rw [e]; exact hrd q hq, List.not_mem_nil⟩) EA) (PySem.W.AllAlike.of fun b b' => PySem.W.alike_ints b.2 b'.2) (.inl fun d hd => ?_) (by rw [sizeLine_eq]; omega) (fun b _ => ?_) fun out ol oe => ?_))
  · obtain ⟨q, hq, rfl⟩ := List.mem_map.mp hd
    have := full q (p1.mem_iff.mp hq)
    cases e2 : q.2 with
    | nil => exact absurd e2 this
    | cons x r => exact ⟨.int x, r.map .int, by unfold encT; rw [e2]; rfl⟩
  · have dp : (encT b).depth = 1 := by unfold encT; simp [PyData.depth, PySem.W.depth_ints]
    rw [dp]
    simp
    omega
  · rw [encT_le] at oe
    have eo := refs_each oe
    obtain ⟨c, hc⟩ := sortedHeap_at (vs := vs) (out := out.toArray) hL
    have pN : (M1.mergeSort fun p q => decide (p.2 ≤ q.2)).Perm M := (List.mergeSort_perm _ _).trans p1
    have pw : (M1.mergeSort fun p q => decide (p.2 ≤ q.2)).Pairwise fun q r => q.2 ≤ r.2 := by
      refine (List.pairwise_mergeSort (le := fun (p q : Addr × List Int) => decide (p.2 ≤ q.2)) (fun x y z h1 h2 => ?_) (fun x y => ?_) M1).imp fun h => of_decide_eq_true h
      · exact decide_eq_true (List.le_trans (of_decide_eq_true h1) (of_decide_eq_true h2))
      · rcases List.le_total x.2 y.2 with h | h
        · simp [h]
        · simp [h]
    refine wpAny_pure ⟨_, rfl, fin _ s1.heap.objs.size out.toArray c _ (fun b u e => ?_) g1 o1 z1 hc (by simpa using eo) pN pw⟩
    have q := k1 b u e
    have lt := Heap.lt_size q
    show (sortedHeap (s1.heap.push (seqObj "list" vs.toArray 0)) s1.heap.objs.size vs out.toArray).get? b = some u
    rw [sortedHeap_old (Nat.ne_of_lt lt) (by rw [size_push']; exact Nat.lt_succ_of_lt lt)]
    exact Heap.get?_push_of_some _ q
end
end DL
set_option maxHeartbeats 1600000
namespace DL
open PySem PySem.Spec PyProof.Rows L2
theorem li_tri : ∀ x y : List Int, x < y ∨ x = y ∨ y < x
  | [], [] => .inr (.inl rfl)
  | [], _ :: _ => .inl (by simp)
  | _ :: _, [] => .inr (.inr (by simp))
  | a :: x, b :: y => by
    rcases Int.lt_trichotomy a b with h | h | h
    · exact .inl (List.cons_lt_cons_iff.mpr (.inl h))
    · subst h
      rcases li_tri x y with q | q | q
      · exact .inl (List.cons_lt_cons_iff.mpr (.inr ⟨rfl, q⟩))
      · exact .inr (.inl (by rw [q]))
      · exact .inr (.inr (List.cons_lt_cons_iff.mpr (.inr ⟨rfl, q⟩)))
    · exact .inr (.inr (List.cons_lt_cons_iff.mpr (.inl h)))
theorem li_irr (x : List Int) : ¬ x < x := List.lt_irrefl x
theorem li_tr {x y z : List Int} (h : x < y) (h2 : y < z) : x < z := List.lt_trans h h2
def ins (x : List Int) : List (List Int) → List (List Int)
  | [] => [x]
  | y :: r => if x < y then x :: y :: r else if x = y then y :: r else y :: ins x r
def ssL (xs : List (List Int)) : List (List Int) := xs.foldr ins []
theorem ins_mem {x z : List Int} : ∀ {r : List (List Int)}, z ∈ ins x r ↔ z = x ∨ z ∈ r
  | [] => by simp [ins]
  | y :: r => by
    unfold ins
    by_cases h : x < y
    · rw [if_pos h]; simp
    · rw [if_neg h]
      by_cases h2 : x = y
      · rw [if_pos h2]; subst h2; simp
      · rw [if_neg h2, List.mem_cons, ins_mem, List.mem_cons]
        constructor <;> rintro (h | h | h) <;> simp [h]
theorem ins_srt {x : List Int} : ∀ {r : List (List Int)}, r.Pairwise (· < ·) → (ins x r).Pairwise (· < ·)
  | [], _ => by simp [ins]
  | y :: r, h => by
    unfold ins
    rw [List.pairwise_cons] at h
    by_cases c : x < y
    · rw [if_pos c, List.pairwise_cons]
      refine ⟨fun z hz => ?_, List.pairwise_cons.mpr h⟩
      rcases List.mem_cons.mp hz with rfl | hz
      · exact c
      · exact li_tr c (h.1 z hz)
    · rw [if_neg c]
      by_cases c2 : x = y
      · rw [if_pos c2]; exact List.pairwise_cons.mpr h
      · rw [if_neg c2, List.pairwise_cons]
        refine ⟨fun z hz => ?_, ins_srt h.2⟩
        rcases ins_mem.mp hz with rfl | hz
        · rcases li_tri z y with q | q | q
          · exact absurd q c
          · exact absurd q c2
          · exact q
        · exact h.1 z hz
theorem ss_mem {z : List Int} : ∀ {xs : List (List Int)}, z ∈ ssL xs ↔ z ∈ xs
  | [] => by simp [ssL]
  | x :: xs => by
    show z ∈ ins x (ssL xs) ↔ _
    rw [ins_mem, ss_mem, List.mem_cons]
theorem ss_srt : ∀ (xs : List (List Int)), (ssL xs).Pairwise (· < ·)
  | [] => .nil
  | x :: xs => ins_srt (ss_srt xs)
theorem srt_uniq : ∀ {a b : List (List Int)}, a.Pairwise (· < ·) → b.Pairwise (· < ·) → (∀ x, x ∈ a ↔ x ∈ b) → a = b
  | [], [], _, _, _ => rfl
  | [], y :: b, _, _, h => by have := (h y).mpr List.mem_cons_self; cases this
  | x :: a, [], _, _, h => by have := (h x).mp List.mem_cons_self; cases this
  | x :: a, y :: b, ha, hb, h => by
    rw [List.pairwise_cons] at ha hb
    have e : x = y := by
      rcases List.mem_cons.mp ((h x).mp List.mem_cons_self) with q | q
      · exact q
      · rcases List.mem_cons.mp ((h y).mpr List.mem_cons_self) with r | r
        · exact r.symm
        · exact absurd (li_tr (hb.1 x q) (ha.1 y r)) (li_irr y)
    subst e
    rw [srt_uniq ha.2 hb.2 fun z => ?_]
    constructor
    · intro hz
      rcases List.mem_cons.mp ((h z).mp (List.mem_cons_of_mem _ hz)) with q | q
      · subst q; exact absurd (ha.1 _ hz) (li_irr _)
      · exact q
    · intro hz
      rcases List.mem_cons.mp ((h z).mpr (List.mem_cons_of_mem _ hz)) with q | q
      · subst q; exact absurd (hb.1 _ hz) (li_irr _)
      · exact q
def tupI (d : D) : Option (List Int) := match d with
  | .tup es => allInts es
  | _ => none
def tupIs : List D → Option (List (List Int))
  | [] => some []
  | d :: ds => (tupI d).bind fun n => (tupIs ds).map (n :: ·)
def rowD (x : List Int) : D := .tup (x.map .int)
def ssE (ds : List D) : Option RV := if ds.length < 64 then (tupIs ds).bind fun xs => if xs.all (fun x => !x.isEmpty) = true then some (.fr (.lst ((ssL xs).map rowD))) else none else none
theorem rows_of {g : Gm} {K : PySem.W.Frag} {S H : Hp} (le : Same S H) : ∀ {vs : List V} {ds : List D} {xs : List (List Int)}, RepL g K S vs ds → tupIs ds = some xs → ∃ ks : List (Addr × List Int), vs = ks.map (fun p => V.ref p.1) ∧ xs = ks.map (·.2) ∧ ∀ p ∈ ks, SqT K H p.1 (p.2.map V.int)
  | _, _, _, .nil, e => by cases e; exact ⟨[], rfl, rfl, fun _ h => nomatch h⟩
  | _, _, xs, .cons (d := d) r t, e => by
    unfold tupIs at e
    cases q : tupI d with
    | none => rw [q] at e; cases e
    | some n =>
      rw [q, Option.bind_some] at e
      obtain ⟨ms, q2, rfl⟩ := Option.map_eq_some_iff.mp e
      obtain ⟨ks, e1, e2, e3⟩ := rows_of le t q2
      cases r <;> first | (cases q; done) | skip
      rename_i a vs es hs rl
      have q3 : allInts es = some n := q
      rw [allInts_eq q3] at rl
      have z := rl.ints
      subst z
      refine ⟨(a, n) :: ks, by rw [e1, List.map_cons], by rw [e2, List.map_cons], fun p hp => ?_⟩
      rcases List.mem_cons.mp hp with rfl | hp
      · exact Same.seqT le hs
      · exact e3 p hp
theorem rep_rows {g : Gm} {K : PySem.W.Frag} {S : Hp} : ∀ {N : List (Addr × List Int)}, (∀ p ∈ N, Rep g K S (.ref p.1) (rowD p.2)) → RepL g K S (N.map fun p => V.ref p.1) ((N.map (·.2)).map rowD)
  | [], _ => .nil
  | p :: N, h => .cons (h p List.mem_cons_self) (rep_rows fun q hq => h q (List.mem_cons_of_mem _ hq))
end DL
set_option maxHeartbeats 1600000
namespace DL
open PySem PySem.Spec PyProof.Rows L2
section
variable {X : Cx}
def rSetN (K : PySem.W.Frag) (P : Program) (w : World) : List V → Hp → VK → Prop := fun xs H Q => ∃ (l : Addr) (ks : List (Addr × List Int)), xs = [V.ref l] ∧ (SqL K H l (ks.map fun p => V.ref p.1) ∨ SqT K H l (ks.map fun p => V.ref p.1)) ∧ (∀ p ∈ ks, SqT K H p.1 (p.2.map V.int)) ∧ ks.length < 64 ∧
  ∀ a M, H a = none → (∀ p ∈ M, p ∈ ks) → (∀ p ∈ ks, p.2 ∈ M.map (·.2)) → Q (.ref a) (upd H a (SetTO P w a M))
theorem cr_setN (hc : X.calm = true) (hu : X.A.units + 65 < cLine) : CallR X (.type "set") (rSetN X.K X.prog X.w) := by
  intro pins s σ H xs us Q I r ⟨l, ks, e, hl, hk, few, q⟩
  subst e
  rcases hl with hl | hl
  · exact cr_setOfT hc (by omega) pins s σ H _ us Q I r ⟨l, ks, rfl, hl, hk, few, q⟩
  · rw [Vals.ref1 r]
    obtain ⟨its, rv, pt, _⟩ := I.tuple hl
    obtain ⟨ot, o1, o2, n0, o3⟩ := pt
    have fresh : H s.heap.objs.size = none := I.hok.fresh (Nat.le_refl _)
    refine set_of_tup (P := X.prog) (w := X.w) ks (I.ok.hd hc) (its := its.toArray) ⟨ot, o1, o2, n0, o3⟩ (by simpa using refs_of_vals rv) (fun p hp => I.isT (hk p hp)) few (by omega) fun g0 tk M es ep tb R gt kp => ?_
    exact ⟨.ref s.heap.objs.size, upd H s.heap.objs.size (SetTO X.prog X.w s.heap.objs.size M), I.laid (t' := tk) kp (Nat.le_refl _) (setTO_new R.t0), rfl, q _ M fresh (fun p hp => List.mem_of_mem_take (gt.sub p hp)) fun p hp => gt.all p (by rw [List.take_length]; exact hp)⟩
def rSortN (K : PySem.W.Frag) (P : Program) (w : World) : List V → Hp → VK → Prop := fun xs H Q => ∃ (a : Addr) (M : List (Addr × List Int)), xs = [V.ref a] ∧ H a = some (SetTO P w a M) ∧ (∀ p ∈ M, SqT K H p.1 (p.2.map V.int)) ∧ (∀ p ∈ M, p.2 ≠ []) ∧
  ∀ (N : List (Addr × List Int)) (p : Addr), N.Perm M → (N.map (·.2)).Nodup → N.Pairwise (fun q r => q.2 ≤ r.2) → H p = none → Q (.ref p) (upd H p (.lst (N.map fun q => V.ref q.1)))
theorem cr_sortN (hc : X.calm = true) (hu : X.A.units + 65 < cLine) : CallR X (.builtin "sorted") (rSortN X.K X.prog X.w) := by
  intro pins s σ H xs us Q I r ⟨a, M, e, ha, hk, full, q⟩
  subst e
  have T0 : SetT0 X.prog X.w s.heap a M := (I.hok a _ ha).1
  obtain ⟨es, ep, tb, R⟩ := T0.full fun p hp => I.isT (hk p hp)
  rw [Vals.ref1 r]
  refine sorted_of_set R (I.ok.hd hc) (by omega) full fun z p out c N kp g0 o0 hp hz ho pm pw => ?_
  have few : N.length < 64 := by rw [pm.length_eq]; exact R.few
  have short : (N.map fun q => V.ref q.1).length ≤ sizeLine := by rw [List.length_map, sizeLine_eq]; omega
  have fresh : H p = none := I.hok.fresh hp
  have vals : Vals (N.map fun q => V.ref q.1) out.toList := by rw [ho]; exact vals_of_refs N
  have J : L2.Inv X pins σ (upd H p (.lst (N.map fun q => V.ref q.1))) { s with heap := z.heap, gens := z.gens, drawn := z.drawn, toks := z.toks } := I.call (ch := []) (Un.laid kp hp fresh) (I.hok.laid kp hp ⟨short, out.toList, c, vals, hz⟩) (by rw [g0]; exact I.bare) (fun _ h => nomatch h)
  have ez : z = { s with heap := z.heap, gens := z.gens, drawn := z.drawn, toks := z.toks } := by
    obtain ⟨z1, z2, z3, z4, z5⟩ := z
    have : z5 = s.os := o0
    subst this
    rfl
  rw [ez]
  exact ⟨.ref p, _, J, rfl, q N p pm ((pm.map (·.2)).nodup_iff.mpr R.nd) pw fresh⟩
end
theorem bt_sorted : bootBuiltins "sorted" = some (.builtin "sorted") := by decide +kernel
theorem bt_set : bootBuiltins "set" = some (.type "set") := by decide +kernel
section
variable {X : Cx} {g : Gm} {W : WX} {e : Expr} {ma : DS → Res RV} {p p2 pos pos2 : Pos}
theorem ss_end {K : PySem.W.Frag} {P : Program} {w : World} {σ : L2.St} {τ : DS} {H S : Hp} {x : V} {a : Addr} {vs : List V} {ds : List D} {Q : VK} (A : Abs g K σ H τ S) (hx : x = .ref a) (ha : SqL K H a vs ∨ SqT K H a vs) (rl : RepL g K S vs ds) (h : EndV g K σ τ H S (ssE ds) Q) :
    rSetN K P w [x] H fun y H2 => rSortN K P w [y] H2 Q := by
  subst hx
  unfold ssE at h
  obtain ⟨few, h⟩ := h.if_
  obtain ⟨xs, ex, h⟩ := h.bind_
  obtain ⟨full, h⟩ := h.if_
  obtain ⟨ks, rfl, rfl, hS⟩ := rows_of (Same.refl S) rl ex
  have few2 : ks.length < 64 := by rw [← rl.length, List.length_map] at few; exact few
  refine ⟨a, ks, rfl, ha, fun q hq => Same.seqT A.le (hS q hq), few2, fun b M hb sub all => ?_⟩
  have up : Same H (upd H b (SetTO P w b M)) := Same.upd_new hb
  refine ⟨b, M, rfl, upd_same, fun q hq => Same.seqT up (Same.seqT A.le (hS q (sub q hq))), fun q hq e => ?_, fun N c pm nd pw hc => ?_⟩
  · have := List.all_eq_true.mp full q.2 (List.mem_map.mpr ⟨q, sub q hq, rfl⟩)
    rw [e] at this
    cases this
  · have eN : N.map (·.2) = ssL (ks.map (·.2)) := by
      refine srt_uniq ?_ (ss_srt _) fun z => ?_
      · have h1 : (N.map (·.2)).Pairwise fun (x y : List Int) => x ≤ y := List.pairwise_map.mpr pw
        refine (List.Pairwise.and h1 nd).imp fun {x y} hxy => ?_
        rcases li_tri x y with q | q | q
        · exact q
        · exact absurd q hxy.2
        · exact absurd q (List.not_lt.mpr hxy.1)
      · rw [ss_mem]
        constructor
        · intro hz
          obtain ⟨q, hq, rfl⟩ := List.mem_map.mp hz
          exact List.mem_map.mpr ⟨q, sub q (pm.mem_iff.mp hq), rfl⟩
        · intro hz
          obtain ⟨q, hq, rfl⟩ := List.mem_map.mp hz
          obtain ⟨r, hr, er⟩ := List.mem_map.mp (all q hq)
          rw [← er]
          exact List.mem_map.mpr ⟨r, pm.mem_iff.mpr hr, rfl⟩
    have A1 := A.priv hb (SetTO P w b M)
    have A2 := A1.priv hc (.lst (N.map fun q => V.ref q.1))
    refine h _ _ S A2 ((A.ext_priv hb _).trans (A1.ext_priv hc _)) (.fr ?_ upd_same (A1.sn hc) (Own.not_new A1 hc) (.lst ?_))
    · by_cases q : c = b
      · rw [q]; exact hb
      · rw [upd_ne q] at hc; exact hc
    · rw [← eN]
      exact rep_rows fun q hq => .tup (hS q (sub q (pm.mem_iff.mp hq))) RepL.of_ints
end
end DL
namespace DL
open PySem PySem.Spec PyProof.Rows L2
def boI (b : Bool) : Int := cond b 1 0
def subE : D → D → Option RV
  | .bl a, .bl b => some (.dat (.int (boI a - boI b)))
  | a, b => subD a b
section
variable {X : Cx} {g : Gm}
theorem opD_subE : OpD X g (binaryOp .Sub) subE := by
  intro pins s σ H τ S x y v u dx dy Q I rx ry A sx sy h
  unfold subE at h
  split at h
  · rename_i a b
    obtain rfl := sx.bl
    obtain rfl := sy.bl
    cases rx
    cases ry
    refine sub_bool ⟨.int (boI a - boI b), H, ?_, ?_, h.here A (.int _)⟩
    · exact I.tok _
    · exact ⟨_, by unfold boI b2i; cases a <;> cases b <;> rfl⟩
  · exact opD_sub pins s σ H τ S x y v u dx dy Q I rx ry A sx sy h
end
section
variable {i j : Int} {a b : Bool}
theorem v_subE_i : subE (.int i) (.int j) = some (.dat (.int (i - j))) := (rfl)
theorem v_subE_b : subE (.bl a) (.bl b) = some (.dat (.int (boI a - boI b))) := (rfl)
end
end DL
set_option maxHeartbeats 3200000
namespace DL
open PySem PySem.Spec PyProof.Rows L2
section
variable {P : Program} {w : World} {A : Around} {E : Value → Shared → Prop} {s : Shared}
theorem upd_ints {I : Addr} {fp wr : List Addr} {G : Array GenState → Array GenState → Prop} {n : Nat} {Pv : Nat → Value → Prop} {St : Nat → Shared → Prop} {R : Result → Shared → Prop}
    (W : WalksS P w A.in1 I fp wr G n Pv St) (S : Addr) (nS : S ∉ fp) (ns : List Int) (hn : n = ns.length) (few : ns.length + 1 < scanBound) (val : ∀ i v, Pv i v → ∃ k t, ns[i]? = some k ∧ v = .int k t)
    (h0 : Heap) (free : h0.get? S = none) (own : ∀ b ∈ wr, h0.get? b = none) :
    ∀ (k i : Nat) (z : Shared), n - i = k → i ≤ n → St i z → (∀ b o, h0.get? b = some o → z.heap.get? b = some o) → (∃ T m, SetR w z.heap S T m ∧ m ≤ i ∧ ∀ x, T x = true ↔ x ∈ ns.take i) →
      (∀ z' T m, Moved (S :: wr) G z z' → SetR w z'.heap S T m → m ≤ n → (∀ x, T x = true ↔ x ∈ ns) → (∀ b o, h0.get? b = some o → z'.heap.get? b = some o) → R (.ok (.ret .none)) z') →
      codeAny (model P w) A (.builtin "set.update.loop" ⟨[.ref S, .ref I], []⟩) R z := by
  have nw : S ∉ wr := fun h => nS (W.sub _ h)
  have inc : ∀ b ∈ wr, b ∈ S :: wr := fun b hb => List.mem_cons_of_mem _ hb
  have hold : ∀ {u v : Shared}, Moved wr G u v → (∀ b o, h0.get? b = some o → u.heap.get? b = some o) → ∀ b o, h0.get? b = some o → v.heap.get? b = some o := fun mv kp b o e =>
    mv.heap b o (fun hb => by have := own b hb; rw [this] at e; cases e) (kp b o e)
  intro k
  induction k with
  | zero =>
    intro i z ek hi st kp ⟨T, m, hR, hm, hT⟩ fin
    have ei : i = n := by omega
    subst ei
    refine codeAny_builtin F.entry_set_update_loop ?_
    rw [Around.under_plainId F.plain_set_update_loop _]
    show wpAny _ A.in1 (pyNext (.ref I) >>= _) _ _ z
    refine wpAny_bind (W.done z _ _ st fun u mv => ?_)
    show wpAny _ A.in1 (ret Value.none) _ _ u
    refine wpAny_pure (fin u T m (mv.mono inc) (hR.at fun o e => mv.heap S o nw e) hm (fun x => ?_) (hold mv kp))
    rw [hT, List.take_of_length_le (by omega)]
  | succ k ih =>
    intro i z ek hi st kp ⟨T, m, hR, hm, hT⟩ fin
    have lt : i < n := by omega
    refine codeAny_builtin F.entry_set_update_loop ?_
    rw [Around.under_plainId F.plain_set_update_loop _]
    show wpAny _ A.in1 (pyNext (.ref I) >>= _) _ _ z
    refine wpAny_bind (W.item i z _ _ lt st fun v u hP st' mv => ?_)
    obtain ⟨x, t, hx, rfl⟩ := val i v hP
    have kp' := hold mv kp
    have R1 : SetR w u.heap S T m := hR.at fun o e => mv.heap S o nw e
    show wpAny _ A.in1 (holding [Value.int x t] (setAdd S (.int x t)) >>= _) _ _ u
    refine wpAny_bind (wpAny_holding ?_)
    unfold setAdd
    refine wpAny_holding ?_
    refine wpAny_bind ((intKind P w).pyHash (intKind_is P w x t) ?_)
    refine setR_add_hashed (s := { u with toks := u.toks + 1 }) R1 (by omega) fun g sb R2 => ?_
    have kp2 : ∀ b o, h0.get? b = some o → g.get? b = some o := fun b o e => (sb.2 b (fun q => by rw [q, free] at e; cases e)).trans (kp' b o e)
    refine wpAny_pure ⟨plainId_quiet F.plain_set_update_loop _, ih (i + 1) _ (by omega) lt (W.frame _ u _ _ st' (Nat.le_add_right _ _) fun b hb o e => ?_) kp2 ⟨_, _, R2, ?_, fun y => ?_⟩ fun u2 T2 m2 mv2 R3 hm3 hT3 kp3 => ?_⟩
    · have : b ≠ S := fun q => nS (q ▸ hb)
      exact (sb.2 b this).trans e
    · split <;> omega
    · have tk : ns.take (i + 1) = ns.take i ++ [x] := by rw [List.take_add_one, hx]; rfl
      rw [tk, List.mem_append, List.mem_singleton, ← hT]
      simp
    · refine fin u2 T2 m2 (Moved.trans W.gtrans ((mv.mono inc).then_heap (Nat.le_add_right _ _) fun b o hb e => ?_) mv2) R3 hm3 hT3 kp3
      have : b ≠ S := fun q => hb (by rw [q]; exact List.mem_cons_self)
      exact (sb.2 b this).trans e
theorem set_of_ints {t : Addr} {its : Array Value} (ns : List Int) {Q : Value → Shared → Prop} (quiet : A.handled = none) (ht : s.heap.IsList t its) (hi : IntsAre its.toList ns) (few : ns.length + 1 < scanBound)
    (fin : ∀ (g : Heap) (tk : Nat) T m, SetR w g s.heap.objs.size T m → m ≤ ns.length → (∀ x, T x = true ↔ x ∈ ns) → (∀ b o, s.heap.get? b = some o → g.get? b = some o) → Q (.ref s.heap.objs.size) { s with heap := g, toks := tk }) :
    wpAny (model P w) A (call (.type "set") [.ref t]) Q E s := by
  have hlen : ∀ {vs : List Value} {ms : List Int}, IntsAre vs ms → vs.length = ms.length := fun h => by
    induction h with
    | nil => rfl
    | cons _ _ _ ih => rw [List.length_cons, List.length_cons, ih]
  have sz : its.size = ns.length := by rw [← Array.length_toList]; exact hlen hi
  obtain ⟨c0, tl0, m0⟩ := F.called_set.mro
  have d1 := F.called_set.made
  have d2 := F.called_set.sub
  have d3 := F.called_set.notType
  have d4 := F.called_set.canCreate
  refine wpAny_call (codeAny_of_tree ?_)
  show wpAny _ _ (callAny (.type "set") _) _ _ _
  refine wpAny_pure ⟨Code.quiet_builtin _ (by decide +kernel), codeAny_builtin F.entry_type_call ?_⟩
  rw [Around.under_plain (weight_type_call_type "set" [.ref t] []) rfl]
  have d5 := F.typeCall_set_1 (.ref t)
  repeat (any_goals (first | assumption | wp_step))
  refine codeAny_mono (code_set_led1 (.ref t) (E := E) (Q₁ := fun ob z => ob = .ref s.heap.objs.size ∧ z = { s with heap := s.heap.push (set0 w) }) ⟨rfl, rfl⟩) fun r z hr => ?_
  cases r with
  | error e => exact hr
  | ok fl =>
    cases fl with
    | ret ob =>
      obtain ⟨rfl, rfl⟩ := hr
      have gS : (s.heap.push (set0 w)).get? s.heap.objs.size = some (set0 w) := Heap.get?_push_size _ rfl
      have tS : Shared.TypeIs { s with heap := s.heap.push (set0 w) } (.ref s.heap.objs.size) "set" := ⟨_, gS, rfl⟩
      have d6 := F.called_set.init.lookup
      have d7 := F.called_set.init.bind (.ref s.heap.objs.size)
      repeat (any_goals (first | assumption | wp_step))
      refine codeAny_mono (codeAny_call_builtin (R := wants (fun r z2 => r = .none ∧ ∃ g tk T m, z2 = { s with heap := g, toks := tk } ∧ SetR w g s.heap.objs.size T m ∧ m ≤ ns.length ∧ (∀ x, T x = true ↔ x ∈ ns) ∧
          (∀ b o, s.heap.get? b = some o → g.get? b = some o)) E) F.called_set.init.plain F.entry_set_init (check_set_init_1 tS ?_)) fun r2 z2 hr2 => ?_
      · obtain ⟨ot, ho, hc, nt, hd⟩ := ht
        obtain ⟨oc, od, oda, os⟩ := ot
        simp only at hc hd
        subst hc; subst hd
        have ho' : (s.heap.push (set0 w)).get? t = some ⟨.type "list", od, .seq its nt, os⟩ := Heap.get?_push_of_some _ ho
        have d8 := F.sub_list_set
        have d9 := F.sub_list_frozenset
        have dn : (Value.type "list" == Value.type "dict") = false := by decide
        have t1 : (s.heap.push (set0 w)).IsList t its := ⟨_, ho', rfl, nt, rfl⟩
        unfold Builtin.«set.__init__» noKeywords Builtin.Frozenset.updateFrom
        generalize hPI : pyIter = PI
        wp_walk
        subst hPI
        refine wpAny_pyIter_list t1 ?_
        refine wpAny_bind (wpAny_runValue ?_)
        have lt : t < s.heap.objs.size := Heap.lt_size ho
        have q3 : A.in1.in1.in1.handled = none := by simp [quiet]
        have neI : t ≠ (s.heap.push (set0 w)).objs.size := by
          rw [Heap.size_push]; exact Nat.ne_of_lt (Nat.lt_succ_of_lt lt)
        have nin : s.heap.objs.size ∉ [(s.heap.push (set0 w)).objs.size, t] := by
          rw [Heap.size_push]
          intro hm
          rcases List.mem_cons.mp hm with q | q
          · exact Nat.ne_of_lt (Nat.lt_succ_self _) q
          · exact Nat.ne_of_gt lt (List.mem_singleton.mp q)
        have val : ∀ (i : Nat) (v : Value), its[i]? = some v → ∃ k tk, ns[i]? = some k ∧ v = .int k tk := fun i v hv => by
          have q : its.toList[i]? = some v := by simpa using hv
          have key : ∀ {vs : List Value} {ms : List Int}, IntsAre vs ms → ∀ i : Nat, vs[i]? = some v → ∃ k tk, ms[i]? = some k ∧ v = .int k tk := fun h => by
            induction h with
            | nil => intro i e; cases e
            | cons n tk _ ih =>
              intro i e
              cases i with
              | zero => exact ⟨n, tk, rfl, by simpa using e.symm⟩
              | succ i => exact ih i (by simpa using e)
          exact key hi i q
        have out : ∀ b, s.heap.objs.size ≤ b → s.heap.get? b = none := fun b hb => by
          cases q : s.heap.get? b with
          | none => rfl
          | some o => exact absurd (Heap.lt_size q) (Nat.not_lt.mpr hb)
        refine upd_ints ((Walks.list q3 _ t neI its).toS) s.heap.objs.size nin ns sz few val s.heap (out _ (Nat.le_refl _)) (fun b hb => out b (by rw [List.mem_singleton.mp hb, Heap.size_push]; exact Nat.le_succ _)) (its.size - 0) 0 _ (by omega) (Nat.zero_le _)
          ⟨⟨_, Heap.get?_push_size _ rfl, rfl, rfl⟩, t1.push _⟩ (fun b o e => Heap.get?_push_of_some _ (Heap.get?_push_of_some _ e)) ⟨_, 0, (setR_fresh w).at fun o e => Heap.get?_push_of_some _ e, Nat.le_refl _, fun x => by simp⟩ ?_
        intro z3 T m mv hS hm hT kp
        obtain ⟨g, g2, dr, tk, os3⟩ := z3
        have e1 : g2 = s.gens := mv.gens
        have e2 : dr = s.drawn := mv.drawn
        have e3 : os3 = s.os := mv.os
        subst e1; subst e2; subst e3
        rw [sz] at hm
        show wpAny _ _ _ _ _ _
        refine wpAny_pure ?_
        show wpAny _ _ (ret Value.none) _ _ _
        exact wpAny_pure ⟨rfl, g, tk, T, m, rfl, hS, hm, hT, kp⟩
      · cases r2 with
        | error e => exact hr2
        | ok fl2 =>
          cases fl2 with
          | ret r =>
            obtain ⟨rfl, g, tk, T, m, rfl, hS, hm, hT, kp⟩ := hr2
            repeat (any_goals (first | assumption | wp_step))
            exact fin _ _ _ _ hS hm hT kp
          | _ => exact hr2.elim
    | _ => exact hr.elim
end
end DL
set_option maxHeartbeats 1000000
namespace DL
open PySem PySem.Spec PyProof.Rows L2
noncomputable def pyE (d : D) : PyData := (pyD d).getD .none
noncomputable def ordD : D → D → Bool := PySem.W.dataLe false pyE
def tupN (p : PyData) : Bool := match p with
  | .tuple (_ :: _) => true
  | _ => false
def othN (p : PyData) : Bool := match p with
  | .none => false
  | .tuple _ => false
  | _ => true
noncomputable def sortOk (ds : List D) : Bool :=
  (ds.all fun d => (pyD d).isSome && decide ((pyE d).depth ≤ 60)) && ((ds.all fun d => ds.all fun e => PySem.W.alike (pyE d) (pyE e)) && ((ds.all fun d => tupN (pyE d)) || (ds.all fun d => othN (pyE d))))
theorem pyE_some {d : D} {p : PyData} (h : pyD d = some p) : pyE d = p := by unfold pyE; rw [h]; rfl
section
variable {g : Gm} {K : PySem.W.Frag} {S : Hp}
theorem repl_zip : ∀ {vs : List V} {ds : List D}, RepL g K S vs ds → ∀ p ∈ vs.zip ds, Rep g K S p.1 p.2
  | _, _, .nil, p, h => by simp at h
  | _, _, .cons r t, p, h => by
    rw [List.zip_cons_cons] at h
    rcases List.mem_cons.mp h with rfl | h
    · exact r
    · exact repl_zip t p h
theorem repl_of : ∀ {zs : List (V × D)}, (∀ p ∈ zs, Rep g K S p.1 p.2) → RepL g K S (zs.map (·.1)) (zs.map (·.2))
  | [], _ => .nil
  | z :: zs, h => .cons (h z List.mem_cons_self) (repl_of fun p hp => h p (List.mem_cons_of_mem _ hp))
theorem each_vals : ∀ {vs : List V} {us : List Value} {ds : List D}, Vals vs us → vs.length = ds.length → PySem.W.EachIs (fun (u : Value) (b : V × D) => RelV b.1 u) us (vs.zip ds)
  | _, _, [], .nil, _ => .nil
  | _, _, _ :: _, .nil, h => by simp at h
  | _, _, [], .cons _ _, h => by simp at h
  | _, _, _ :: _, .cons r t, h => .cons r (each_vals t (by simpa using h))
theorem each_imp2 {R R' : Value → V × D → Prop} : ∀ {vs : List Value} {M : List (V × D)}, (∀ v q, q ∈ M → R v q → R' v q) → PySem.W.EachIs R vs M → PySem.W.EachIs R' vs M
  | _, _, _, .nil => .nil
  | _, _, h, .cons e t => .cons (h _ _ List.mem_cons_self e) (each_imp2 (fun v q hq => h v q (List.mem_cons_of_mem _ hq)) t)
end
end DL
set_option maxHeartbeats 1000000
namespace DL
open PySem PySem.Spec PyProof.Rows L2
def isSomeB {α : Type} : Option α → Bool
  | some _ => true
  | none => false
def insI (x : Int) : List Int → List Int
  | [] => [x]
  | y :: r => if x < y then x :: y :: r else if x = y then y :: r else y :: insI x r
def siL (xs : List Int) : List Int := xs.foldr insI []
theorem insI_mem {x z : Int} : ∀ {r : List Int}, z ∈ insI x r ↔ z = x ∨ z ∈ r
  | [] => by simp [insI]
  | y :: r => by
    unfold insI
    by_cases h : x < y
    · rw [if_pos h]; simp
    · rw [if_neg h]
      by_cases h2 : x = y
      · rw [if_pos h2]; subst h2; simp
      · rw [if_neg h2, List.mem_cons, insI_mem, List.mem_cons]
        constructor <;> rintro (h | h | h) <;> simp [h]
theorem insI_srt {x : Int} : ∀ {r : List Int}, r.Pairwise (· < ·) → (insI x r).Pairwise (· < ·)
  | [], _ => by simp [insI]
  | y :: r, h => by
    unfold insI
    rw [List.pairwise_cons] at h
    by_cases c : x < y
    · rw [if_pos c, List.pairwise_cons]
      refine ⟨fun z hz => ?_, List.pairwise_cons.mpr h⟩
      rcases List.mem_cons.mp hz with rfl | hz
      · exact c
      · have := h.1 z hz; omega
    · rw [if_neg c]
      by_cases c2 : x = y
      · rw [if_pos c2]; exact List.pairwise_cons.mpr h
      · rw [if_neg c2, List.pairwise_cons]
        refine ⟨fun z hz => ?_, insI_srt h.2⟩
        rcases insI_mem.mp hz with rfl | hz
        · omega
        · exact h.1 z hz
theorem si_mem {z : Int} : ∀ {xs : List Int}, z ∈ siL xs ↔ z ∈ xs
  | [] => by simp [siL]
  | x :: xs => by
    show z ∈ insI x (siL xs) ↔ _
    rw [insI_mem, si_mem, List.mem_cons]
theorem si_srt : ∀ (xs : List Int), (siL xs).Pairwise (· < ·)
  | [] => .nil
  | x :: xs => insI_srt (si_srt xs)
theorem int_uniq : ∀ {a b : List Int}, a.Pairwise (· < ·) → b.Pairwise (· < ·) → (∀ x, x ∈ a ↔ x ∈ b) → a = b
  | [], [], _, _, _ => rfl
  | [], y :: b, _, _, h => by have := (h y).mpr List.mem_cons_self; cases this
  | x :: a, [], _, _, h => by have := (h x).mp List.mem_cons_self; cases this
  | x :: a, y :: b, ha, hb, h => by
    rw [List.pairwise_cons] at ha hb
    have e : x = y := by
      rcases List.mem_cons.mp ((h x).mp List.mem_cons_self) with q | q
      · exact q
      · rcases List.mem_cons.mp ((h y).mpr List.mem_cons_self) with r | r
        · exact r.symm
        · have := hb.1 x q; have := ha.1 y r; omega
    subst e
    rw [int_uniq ha.2 hb.2 fun z => ?_]
    constructor
    · intro hz
      rcases List.mem_cons.mp ((h z).mp (List.mem_cons_of_mem _ hz)) with q | q
      · subst q; have := ha.1 _ hz; omega
      · exact q
    · intro hz
      rcases List.mem_cons.mp ((h z).mpr (List.mem_cons_of_mem _ hz)) with q | q
      · subst q; have := hb.1 _ hz; omega
      · exact q
def siE (ds : List D) : Option RV := (allInts ds).bind fun ns => if ns.length < 64 then some (.fr (.lst ((siL ns).map .int))) else none
def ss2 (ds : List D) : Option RV := if isSomeB (allInts ds) = true then siE ds else ssE ds
section
variable {X : Cx}
def rSetM (K : PySem.W.Frag) (P : Program) (w : World) : List V → Hp → VK → Prop := fun xs H Q => rSetN K P w xs H Q ∨ ∃ (l : Addr) (ns : List Int), xs = [V.ref l] ∧ SqL K H l (ns.map V.int) ∧ ns.length < 64 ∧ ∀ a T m, H a = none → m ≤ ns.length → (∀ x, T x = true ↔ x ∈ ns) → Q (.ref a) (upd H a (SetO w a T m))
theorem cr_setM (hc : X.calm = true) (hu : X.A.units + 65 < cLine) : CallR X (.type "set") (rSetM X.K X.prog X.w) := by
  intro pins s σ H xs us Q I r h
  rcases h with h | ⟨l, ns, e, hl, few, q⟩
  · exact cr_setN hc hu pins s σ H xs us Q I r h
  · subst e
    rw [Vals.ref1 r]
    obtain ⟨its, rv, pl, _⟩ := I.list hl
    have fresh : H s.heap.objs.size = none := I.hok.fresh (Nat.le_refl _)
    refine set_of_ints (P := X.prog) (w := X.w) ns (I.ok.hd hc) pl.isList (by simpa using rv.ints) (by unfold scanBound; omega) fun g0 tk T m R hm hT kp => ?_
    exact ⟨.ref s.heap.objs.size, upd H s.heap.objs.size (SetO X.w s.heap.objs.size T m), I.laid (t' := tk) kp (Nat.le_refl _) (setO_new R), rfl, q _ T m fresh hm hT⟩
def rSortM (K : PySem.W.Frag) (P : Program) (w : World) : List V → Hp → VK → Prop := fun xs H Q => rSortN K P w xs H Q ∨ rSortedSet w xs H Q
theorem cr_sortM (hc : X.calm = true) (hu : X.A.units + 65 < cLine) : CallR X (.builtin "sorted") (rSortM X.K X.prog X.w) := by
  intro pins s σ H xs us Q I r h
  rcases h with h | h
  · exact cr_sortN hc hu pins s σ H xs us Q I r h
  · exact cr_sortedSet hc pins s σ H xs us Q I r h
end
section
variable {X : Cx} {g : Gm} {W : WX} {e : Expr} {ma : DS → Res RV} {p p2 pos pos2 : Pos}
theorem rSetN.weak {K : PySem.W.Frag} {P : Program} {w : World} {xs : List V} {H : Hp} {Q Q' : VK} (h : rSetN K P w xs H Q) (q : ∀ v H1, Q v H1 → Q' v H1) : rSetN K P w xs H Q' := by
  obtain ⟨l, ks, a1, a2, a3, a4, a5⟩ := h
  exact ⟨l, ks, a1, a2, a3, a4, fun b M hb h1 h2 => q _ _ (a5 b M hb h1 h2)⟩
theorem ss2_end {K : PySem.W.Frag} {P : Program} {w : World} {σ : L2.St} {τ : DS} {H S : Hp} {x : V} {a : Addr} {vs : List V} {ds : List D} {Q : VK} (A : Abs g K σ H τ S) (hx : x = .ref a) (ha : SqL K H a vs) (rl : RepL g K S vs ds) (h : EndV g K σ τ H S (ss2 ds) Q) :
    rSetM K P w [x] H fun y H2 => rSortM K P w [y] H2 Q := by
  unfold ss2 at h
  split at h
  · subst hx
    unfold siE at h
    obtain ⟨ns, en, h⟩ := h.bind_
    obtain ⟨few, h⟩ := h.if_
    rw [allInts_eq en] at rl
    have z := rl.ints
    subst z
    refine .inr ⟨a, ns, rfl, ha, few, fun b T m hb hm hT => .inr ⟨b, T, m, rfl, upd_same, by omega, fun ks c srt mem len hc => ?_⟩⟩
    have ek : ks = siL ns := int_uniq srt (si_srt ns) fun z => by rw [mem, hT, si_mem]
    have A1 := A.priv hb (SetO w b T m)
    have A2 := A1.priv hc (.lst (ks.map V.int))
    refine h _ _ S A2 ((A.ext_priv hb _).trans (A1.ext_priv hc _)) (.fr ?_ upd_same (A1.sn hc) (Own.not_new A1 hc) (.lst ?_))
    · by_cases q : c = b
      · rw [q]; exact hb
      · rw [upd_ne q] at hc; exact hc
    · rw [ek]; exact RepL.of_ints
  · exact .inl ((ss_end A hx (.inl ha) rl h).weak fun _ _ q => .inl q)
end
end DL
set_option maxHeartbeats 1000000
namespace DL
open PySem PySem.Spec PyProof.Rows L2
def KeysOf (kvs : List (Key × V)) (ns : List Int) : Prop := ∃ ks : List Int, kvs.map (·.1) = ks.map Sum.inl ∧ ks.Nodup ∧ (∀ z, z ∈ ks ↔ z ∈ ns) ∧ kvs.length ≤ ns.length
theorem KeysOf.nil : KeysOf [] [] := ⟨[], rfl, .nil, fun _ => Iff.rfl, Nat.le_refl _⟩
theorem KeysOf.len {kvs : List (Key × V)} {ns : List Int} (h : KeysOf kvs ns) : kvs.length ≤ ns.length := by
  obtain ⟨_, _, _, _, h⟩ := h; exact h
end DL
set_option maxHeartbeats 1000000
namespace DL
open PySem PySem.Spec PyProof.Rows L2
end DL
set_option maxHeartbeats 1000000
namespace DL
open PySem PySem.Spec PyProof.Rows L2
end DL
set_option maxHeartbeats 1000000
namespace DL
open PySem PySem.Spec PyProof.Rows L2
end DL
set_option maxHeartbeats 1000000
namespace DL
open PySem PySem.Spec PyProof.Rows L2
section
variable {g : Gm} {K : PySem.W.Frag} {W : WX} {σ : St} {τ : DS} {H S : Hp}
open Classical in
noncomputable def lentS (σ : St) (τ : DS) (H S : Hp) : Hp := fun a => if Own σ τ a then H a else S a
open Classical in
noncomputable def unlent (σ : St) (τ : DS) (S : Hp) : Hp := fun a => if Own σ τ a then none else S a
end
end DL
set_option maxHeartbeats 1000000
namespace HT
open PySem PySem.Calls PyProof PyProof.Rows
end HT
namespace DL
open PySem PySem.Spec PyProof PyProof.Rows L2
end DL
set_option maxHeartbeats 1000000
namespace DL
open PySem PySem.Spec PyProof PyProof.Rows L2 Srt
end DL
set_option maxHeartbeats 1000000
namespace DL
open PySem PySem.Spec PyProof PyProof.Rows L2
structure DT0 (P : Program) (w : World) (h : Heap) (a : Addr) (M : List (Addr × List Int)) : Prop where
  ex : ∃ vals : List (List Int × Addr × Value), vals.map (fun x => (x.2.1, x.1)) = M ∧ (∃ o es ep, h.get? a = some o ∧ o.ExactDict ∧ o.data = .dict es ep ∧ es.toList = vals.map (entryOfKey (tupleKind (intKind P w)))) ∧ (vals.map (·.1)).Nodup ∧ (a == sysModules) = false
theorem DT0.full {P : Program} {w : World} {h : Heap} {a : Addr} {M : List (Addr × List Int)} (R : DT0 P w h a M) (ht : ∀ p ∈ M, IsT P w h p.2 p.1) : ∃ vals : List (List Int × Addr × Value), vals.map (fun x => (x.2.1, x.1)) = M ∧ h.DictOfH (tupleKind (intKind P w)) a vals ∧ (a == sysModules) = false := by
  obtain ⟨vals, e, ⟨o, es, ep, h1, h2, h3, h4⟩, nd, ns⟩ := R.ex
  refine ⟨vals, e, ⟨o, es, ep, h1, h2, h3, h4, fun x hx => ?_, nd⟩, ns⟩
  exact ht (x.2.1, x.1) (by rw [← e]; exact List.mem_map.mpr ⟨x, hx, rfl⟩)
theorem DT0.of {P : Program} {w : World} {h : Heap} {a : Addr} {vals : List (List Int × Addr × Value)} (d : h.DictOfH (tupleKind (intKind P w)) a vals) (ns : (a == sysModules) = false) : DT0 P w h a (vals.map fun x => (x.2.1, x.1)) := by
  obtain ⟨o, es, ep, h1, h2, h3, h4, _, nd⟩ := d
  exact ⟨vals, rfl, ⟨o, es, ep, h1, h2, h3, h4⟩, nd, ns⟩
end DL
set_option maxHeartbeats 1000000
namespace DL
open PySem PySem.Spec PyProof PyProof.Rows L2
end DL
set_option maxHeartbeats 1000000
namespace DL
open PySem PySem.Spec PyProof PyProof.Rows L2
structure RowsT (K : PySem.W.Frag) (S : Hp) (M : List (Addr × List Int)) (acc : List (List Int)) : Prop where
  tup : ∀ p ∈ M, SqT K S p.1 (p.2.map V.int)
  mem : ∀ z, z ∈ M.map (·.2) ↔ z ∈ acc
  len : M.length ≤ acc.length
theorem RowsT.mono {K : PySem.W.Frag} {S S' : Hp} {M : List (Addr × List Int)} {acc : List (List Int)} (r : RowsT K S M acc) (e : Same S S') : RowsT K S' M acc := ⟨fun p hp => Same.seqT e (r.tup p hp), r.mem, r.len⟩
end DL
set_option maxHeartbeats 1000000
namespace DL
open PySem PySem.Spec PyProof PyProof.Rows L2
end DL
set_option maxHeartbeats 1000000
namespace PySem
open Sem (wp)
open AutoSeq1 (wpAny_loadPart')
theorem meets_enumerate_newT (l : Addr) (items : Array Value) (n : Nat) (dct : Option Addr) (sl : Array (Option Value)) :
    Meets (Builtin.«enumerate.__new__» ⟨[.type "enumerate", .ref l], []⟩) (fun _ R s => s.heap.get? l = some { cls := .type "tuple", dict := dct, data := .seq items n, slots := sl } ∧
      R (.ok (.ret (.ref (s.heap.push { cls := .type "tuple_iterator", data := .fields #[.ref l, .int 0 0] }).objs.size)))
        { s with heap := (s.heap.push { cls := .type "tuple_iterator", data := .fields #[.ref l, .int 0 0] }).push { cls := .type "enumerate", data := .fields #[.none, .bool false, .ref s.heap.objs.size, rawInt 0, .none, .none] } }) :=
  .of_wp fun prog w A R s h => by
    obtain ⟨hp, g, d, tk, os⟩ := s; obtain ⟨hl, h⟩ := h
    have hsub := sub_enumerate
    have hL : Heap.IsTuple (Shared.heap ⟨hp, g, d, tk, os⟩) l items := ⟨_, hl, rfl, n, rfl⟩
    wp_walk using wpAny_loadPart' hl
    refine wpAny_stack_any fun st => wpAny_pure ?_
    split
    · rename_i c _ _ _ _ _
      cases (c == Value.type "enumerate")
      · wp_walk using wpAny_loadPart' hl, wpAny_pyIter_tuple hL
        exact ⟨_, rfl, h⟩
      · wp_walk using wpAny_loadPart' hl, wpAny_pyIter_tuple hL
        exact ⟨_, rfl, h⟩
    · wp_walk using wpAny_loadPart' hl, wpAny_pyIter_tuple hL
      exact ⟨_, rfl, h⟩
section
variable {prog : Program} {w : World} {A : Around} {E : Value → Shared → Prop} {s : Shared}
theorem call_enumerate_tup {l : Addr} {items : Array Value} {Q : Value → Shared → Prop} (hL : s.heap.IsTuple l items)
    (h : ∀ h', IsEnum h' (s.heap.objs.size + 1) s.heap.objs.size 0 .none → h'.IsTupleIter s.heap.objs.size l 0 → h'.objs.size = s.heap.objs.size + 2 →
      (∀ b o, s.heap.get? b = some o → h'.get? b = some o) → Q (.ref (s.heap.objs.size + 1)) { s with heap := h' }) :
    wpAny (model prog w) A (call (.type "enumerate") [.ref l]) Q E s := by
  obtain ⟨⟨c, dct, dt, sl⟩, hl, hc, n, hd⟩ := hL
  replace hc : c = .type "tuple" := hc
  replace hd : dt = .seq items n := hd
  subst hc hd
  refine callType_new F.called_enumerate (by decide) (F.typeCall_enumerate_1 _) (F.newCall_enumerate_1 _) (fun obj => F.args_object_init_2 obj _) F.entry_enumerate_new
    (meets_enumerate_newT l items n dct sl) ⟨hl, ?_⟩
  have hz : (s.heap.push { cls := .type "tuple_iterator", data := .fields #[.ref l, .int 0 0] }).objs.size = s.heap.objs.size + 1 := Heap.size_push ..
  show _ ∧ _
  rw [hz]
  have he : IsEnum ((s.heap.push { cls := .type "tuple_iterator", data := .fields #[.ref l, .int 0 0] }).push
      { cls := .type "enumerate", data := .fields #[.none, .bool false, .ref s.heap.objs.size, rawInt 0, .none, .none] }) (s.heap.objs.size + 1) s.heap.objs.size 0 .none := by
    have := Heap.get?_push_size (s.heap.push { cls := .type "tuple_iterator", data := .fields #[.ref l, .int 0 0] })
      (o := { cls := .type "enumerate", data := .fields #[.none, .bool false, .ref s.heap.objs.size, rawInt 0, .none, .none] }) rfl
    rw [hz] at this; exact this
  refine ⟨⟨_, he, rfl⟩, h _ he ⟨_, Heap.get?_push_of_some _ (Heap.get?_push_size _ rfl), rfl, rfl⟩ (by rw [Heap.size_push, hz]) fun b o x => Heap.get?_push_of_some _ (Heap.get?_push_of_some _ x)⟩
end
end PySem
set_option maxHeartbeats 1000000
namespace DL
open PySem PySem.Spec PyProof PyProof.Rows L2
def IteT (K : PySem.W.Frag) (a : Addr) : It :=
  ⟨fun i H => ∃ (xs : List V) (x : V), SqT K H a xs ∧ xs[i]? = some x, fun i H v H' => ∃ T x, v = .ref T ∧ H T = none ∧ H' = upd H T (.tup [.int (i : Nat), x]) ∧ ∀ xs, SqT K H a xs → xs[i]? = some x, fun i H => ∃ xs : List V, SqT K H a xs ∧ xs.length ≤ i⟩
theorem isTuple_of {s : Shared} {a : Addr} {its : List Value} (h : ∃ o, s.heap.get? a = some o ∧ o.cls = .type "tuple" ∧ ∃ n, o.data = .seq its.toArray n) : s.heap.IsTuple a its.toArray := by
  obtain ⟨o, h1, h2, n, h3⟩ := h
  exact ⟨o, h1, h2, n, h3⟩
theorem turn_enumT {P : Program} {w : World} {K : PySem.W.Frag} {elts : List Expr} {kk : Nat} {tpos : Pos} (a e it : Addr) :
    Turn P w K (.Tuple elts kk tpos) (IteT K a) [e, it] e (fun i h => (∃ old, IsEnum h e it ((i : Nat) : Int) old) ∧ h.IsTupleIter it a i ∧ e ≠ it ∧ a ≠ it ∧ a ≠ e) where
  mem := by simp
  obj := fun i h st b hb => by
    obtain ⟨⟨old, he⟩, ⟨o, ho, hc, hd⟩, _⟩ := st
    have e' : b = e ∨ b = it := by simpa using hb
    rcases e' with z | z
    · rw [z]; exact ⟨_, he, fun v q => nomatch q⟩
    · rw [z]; exact ⟨o, ho, fun v q => by rw [hd] at q; cases q⟩
  keep := fun i h h' st k => let ⟨⟨old, he⟩, hi, hne⟩ := st; ⟨⟨old, k e (by simp) _ he⟩, hi.at fun o q => k it (by simp) o q, hne⟩
  item := by
    intro X hP hw hK hc i pins s σ H E I hf st hg
    subst hP hw hK
    obtain ⟨⟨old, he⟩, hit, hne, hai, hae⟩ := st
    obtain ⟨xs, x, hq, hx⟩ := hg
    obtain ⟨its, rv, p, hz⟩ := I.tuple hq
    obtain ⟨u, hu, ru⟩ := rv.get hx
    have hel : e < s.heap.objs.size := Heap.lt_size he
    have hil : it < s.heap.objs.size := by obtain ⟨_, q, _⟩ := hit; exact Heap.lt_size q
    have hu' : its.toArray[i]? = some u := by simpa using hu
    have lt : i < its.toArray.size := (Array.getElem?_eq_some_iff.mp hu').1
    refine wpAny_pyNext_enum_itemD (Draws.tuple (A := X.A.in1) (I.ok.hd hc) it a hai its.toArray) he ⟨hit, isTuple_of p⟩ lt hne (by simp; exact ⟨hne, Ne.symm hae⟩) fun x' h' tk hx' ho hit' hT hsz hk => ?_
    obtain rfl : x' = u := by rw [hu'] at hx'; exact (Option.some.inj hx').symm
    refine ⟨_, rfl, wpAny_letOwnedTupleGo_enum (s := { s with heap := h', toks := tk + 1 }) ho fun h'' he' sb => ?_⟩
    have hT2 : h''.get? s.heap.objs.size = some { cls := .type "tuple", data := .seq #[.int i tk, x'] } := (sb.2 _ (Nat.ne_of_gt hel)).trans hT
    have new : ObjOk X.prog X.w (upd H s.heap.objs.size (.tup [.int (i : Nat), x])) h'' s.heap.objs.size (.tup [.int (i : Nat), x]) :=
      ⟨by show 2 ≤ sizeLine; decide, [.int i tk, x'], .cons ⟨_, rfl⟩ (.cons ru .nil), ⟨_, hT2, rfl, _, rfl⟩⟩
    have I1 : Inv X pins σ (upd H s.heap.objs.size (.tup [.int (i : Nat), x])) { s with heap := h'', toks := tk + 1 } :=
      I.turnedNew (ch := [e, it]) (fun b ob hb q => (sb.2 b (fun z => hb (by simp [z]))).trans (hk b ob (fun z => hb (by simp [z])) (fun z => hb (by simp [z])) q)) hf (Nat.le_refl _) new
    refine ⟨.ref s.heap.objs.size, _, I1, rfl, ⟨_, x, rfl, I.hok.fresh (Nat.le_refl _), rfl, fun ys hy => by rw [I.tuple_inj hy hq]; exact hx⟩, ⟨⟨x', ?_⟩, hit'.1.at fun o q => (sb.2 it (Ne.symm hne)).trans q, hne, hai, hae⟩, fun b hb => ?_⟩
    · have e1 : ((i + 1 : Nat) : Int) = (i : Int) + 1 := by omega
      rw [e1]; exact he'
    · have hb' : b < s.heap.objs.size := by
        have e' : b = e ∨ b = it := by simpa using hb
        rcases e' with z | z
        · rw [z]; exact hel
        · rw [z]; exact hil
      rw [upd_ne (Nat.ne_of_lt hb')]
      exact (hf b hb).1
  done := by
    intro X hP hw hK hc i pins s σ H E I hf st hg
    subst hP hw hK
    obtain ⟨⟨old, he⟩, hit, hne, hai, hae⟩ := st
    obtain ⟨xs, hq, hx⟩ := hg
    obtain ⟨its, rv, p, hz⟩ := I.tuple hq
    obtain ⟨f0, f1, f2, f3, f4, f5⟩ := hf it (by simp)
    have hl := rv.length
    have D : Draws X.prog X.w X.A.in1 it [it, a] i (fun _ _ => False) (fun j h => j = i ∧ h.IsTupleIter it a i ∧ h.IsTuple a its.toArray) :=
      { live := fun _ _ st => let ⟨o, ho, _⟩ := st.2.1; ⟨o, ho⟩
        frame := fun _ _ _ st hk => ⟨st.1, st.2.1.at fun o e => hk it (by simp) o e, st.2.2.at fun o e => hk a (by simp) o e⟩
        item := fun j s Q E hj st hQ => absurd hj (by rw [st.1]; exact Nat.lt_irrefl _)
        done := fun s Q E st hE => wpAny_nextOf_tuple_end (I.ok.hd hc) st.2.1 st.2.2 (by simp; omega) hE }
    exact wpAny_pyNext_enum_endD D he ⟨rfl, hit, isTuple_of p⟩ fun h' eb => ⟨rfl, I.turned (t' := s.toks) (fun b o hb q => eb b o hb q) f0 f1 f3 f4 f5⟩
  self := fun A i s Q E st h => let ⟨⟨_, he⟩, _⟩ := st; wpAny_pyIter_enum he h
def iEnumT (K : PySem.W.Frag) (ta : TA) : TI := fun σ H R => ta σ H fun vs H1 => ∃ a xs, vs = [.ref a] ∧ ((SqL K H1 a xs ∧ R (Ite K a) H1) ∨ (SqT K H1 a xs ∧ R (IteT K a) H1))
theorem pi_enumT {X : Cx} {e : Expr} {ta : TA} {p pos tpos : Pos} {elts : List Expr} {kk : Nat} (hg : Gl X "enumerate") (hm : X.mg "enumerate" = none) (ha : PA X [e] ta) (hs : starEach [e] X.env = [(false, eval e X.env)] := by rfl) :
    PI X (.Tuple elts kk tpos) (.Call (.Name "enumerate" p) [e] [] pos) (iEnumT X.K ta) := by
  refine ⟨fun pins s σ H R I h => ?_⟩
  refine Call_ (ld_blt I hg hm boot_enumerate (PyProof.Rows.callWith_type1 (thn (ha.run pos pins s σ H _ I h) fun us s1 ⟨vs, H1, I1, r1, q1⟩ => ?_) hs rfl))
  obtain ⟨a, xs, ex, q⟩ := q1
  subst ex
  cases r1 with
  | cons r rr =>
    cases rr
    cases r
    have fr : ∀ b ∈ [s1.heap.objs.size + 1, s1.heap.objs.size], FpOk X pins H1 b := fun b hb => by
      have e' : b = s1.heap.objs.size + 1 ∨ b = s1.heap.objs.size := by simpa using hb
      have hle : s1.heap.objs.size ≤ b := by
        rcases e' with z | z
        · rw [z]; exact Nat.le_add_right _ _
        · rw [z]; exact Nat.le_refl _
      exact I1.fpOk hle (I1.hok.fresh hle)
    rcases q with ⟨hq, q⟩ | ⟨hq, q⟩
    · obtain ⟨its, rv, p', hz⟩ := I1.list hq
      refine call_enumerate_list p'.isList fun h' he hit hsz hk => wpAny_pyIter_enum he ?_
      have I2 : Inv X pins σ H1 { s1 with heap := h' } := I1.kept (t' := s1.toks) hk
      exact ⟨s1.heap.objs.size + 1, [s1.heap.objs.size + 1, s1.heap.objs.size], _, _, H1, rfl, I2, turn_enum a (s1.heap.objs.size + 1) s1.heap.objs.size, ⟨⟨.none, he⟩, hit, Nat.succ_ne_self _⟩, fr, q⟩
    · obtain ⟨its, rv, p', hz⟩ := I1.tuple hq
      have it' := isTuple_of p'
      have lt : a < s1.heap.objs.size := by obtain ⟨_, e, _⟩ := it'; exact Heap.lt_size e
      refine call_enumerate_tup it' fun h' he hit hsz hk => wpAny_pyIter_enum he ?_
      have I2 : Inv X pins σ H1 { s1 with heap := h' } := I1.kept (t' := s1.toks) hk
      exact ⟨s1.heap.objs.size + 1, [s1.heap.objs.size + 1, s1.heap.objs.size], _, _, H1, rfl, I2, turn_enumT a (s1.heap.objs.size + 1) s1.heap.objs.size, ⟨⟨.none, he⟩, hit, Nat.succ_ne_self _, Nat.ne_of_lt lt, Nat.ne_of_lt (Nat.lt_succ_of_lt lt)⟩, fr, q⟩
end DL
set_option maxHeartbeats 1000000
namespace DL
open PySem PySem.Spec PyProof.Rows L2
def enumE (ds : List D) (τ : DS) : Res (List D) := match ds with
  | [.lst a] => .ok (enumL 0 a) τ
  | [.tup a] => .ok (enumL 0 a) τ
  | _ => .stuck
section
variable {X : Cx} {g : Gm} {W : WX} {e : Expr} {ma : DS → Res (List RV)} {pos p tpos : Pos} {elts : List Expr} {kk : Nat}
theorem di_enumE (hg : Gl X "enumerate") (hm : X.mg "enumerate" = none) (ha : DA X g W [e] ma) (hs : starEach [e] X.env = [(false, eval e X.env)] := by rfl) :
    DI X g W (.Tuple elts kk tpos) (.Call (.Name "enumerate" p) [e] [] pos) (mFast ma enumE) := by
  refine ⟨PI.imp (pi_enumT hg hm ha.pa hs) fun σ H R h => (LI.fast h).mono fun vs H1 ⟨τ0, S0, τ, S, ds, A, ex, rl, h1⟩ => ?_⟩
  unfold enumE at h1
  split at h1
  · rename_i da
    cases rl with
    | cons ra rl =>
      cases rl
      cases ra with
      | @lst a va _ ha ra =>
        have e0 : enumL 0 da = ((List.range da.length).zip da).map fun p => D.tup [.int (p.1 : Nat), p.2] := by
          apply List.ext_getElem?
          intro i
          cases q : (enumL 0 da)[i]? with
          | none =>
            rw [List.getElem?_eq_none_iff, enumL_len] at q
            rw [List.getElem?_eq_none (by simp; exact q)]
          | some d =>
            obtain ⟨x, q1, rfl⟩ := enumL_get q
            have hi : i < da.length := (List.getElem?_eq_some_iff.mp q1).1
            rw [List.getElem?_map]
            have : ((List.range da.length).zip da)[i]? = some (i, x) := by
              rw [List.getElem?_zip_eq_some]
              exact ⟨by rw [List.getElem?_range hi], q1⟩
            rw [this]
            simp
        have e1 : enumL 0 da = (((List.range da.length).zip da).map fun p => (D.int (p.1 : Nat), p.2)).map fun p => D.tup [p.1, p.2] := by
          rw [e0, List.map_map]
          rfl
        rw [e1] at h1
        refine ⟨a, va, rfl, .inl ⟨SqL.of (A.le _ _ ha), FinP.here A h1 _ (itok_pairs (fun i H S' s1 s2 pr q => ?_) fun i H S' s1 s2 hl => ?_)⟩⟩
        · rw [List.getElem?_map] at q
          cases q0 : ((List.range da.length).zip da)[i]? with
          | none => rw [q0] at q; cases q
          | some y =>
            rw [q0] at q
            cases q
            obtain ⟨z1, z2⟩ := zip_get q0
            obtain ⟨v2, z3, r2⟩ := ra.get z2
            have hi : i < da.length := (List.getElem?_eq_some_iff.mp z2).1
            rw [List.getElem?_range hi] at z1
            have ey : i = y.1 := Option.some.inj z1
            have h1' : SqL X.K H a va := SqL.of (s2 _ _ (s1 _ _ ha))
            refine ⟨⟨va, v2, h1', z3⟩, fun x H' y' => ?_⟩
            obtain ⟨T, u, rfl, hT, rfl, y1⟩ := y'
            have e2 := y1 _ h1'
            rw [z3] at e2
            cases e2
            exact ⟨T, _, _, rfl, hT, rfl, by show Rep g X.K S' (V.int ((i : Nat) : Int)) (D.int ((y.1 : Nat) : Int)); rw [← ey]; exact .int _, r2.mono s1⟩
        · refine ⟨va, SqL.of (s2 _ _ (s1 _ _ ha)), ?_⟩
          rw [ra.length]
          simpa using hl
  · rename_i da
    cases rl with
    | cons ra rl =>
      cases rl
      cases ra with
      | @tup a va _ ha ra =>
        have e0 : enumL 0 da = ((List.range da.length).zip da).map fun p => D.tup [.int (p.1 : Nat), p.2] := by
          apply List.ext_getElem?
          intro i
          cases q : (enumL 0 da)[i]? with
          | none =>
            rw [List.getElem?_eq_none_iff, enumL_len] at q
            rw [List.getElem?_eq_none (by simp; exact q)]
          | some d =>
            obtain ⟨x, q1, rfl⟩ := enumL_get q
            have hi : i < da.length := (List.getElem?_eq_some_iff.mp q1).1
            rw [List.getElem?_map]
            have : ((List.range da.length).zip da)[i]? = some (i, x) := by
              rw [List.getElem?_zip_eq_some]
              exact ⟨by rw [List.getElem?_range hi], q1⟩
            rw [this]
            simp
        have e1 : enumL 0 da = (((List.range da.length).zip da).map fun p => (D.int (p.1 : Nat), p.2)).map fun p => D.tup [p.1, p.2] := by
          rw [e0, List.map_map]
          rfl
        rw [e1] at h1
        refine ⟨a, va, rfl, .inr ⟨Same.seqT A.le ha, FinP.here A h1 _ (itok_pairs (fun i H S' s1 s2 pr q => ?_) fun i H S' s1 s2 hl => ?_)⟩⟩
        · rw [List.getElem?_map] at q
          cases q0 : ((List.range da.length).zip da)[i]? with
          | none => rw [q0] at q; cases q
          | some y =>
            rw [q0] at q
            cases q
            obtain ⟨z1, z2⟩ := zip_get q0
            obtain ⟨v2, z3, r2⟩ := ra.get z2
            have hi : i < da.length := (List.getElem?_eq_some_iff.mp z2).1
            rw [List.getElem?_range hi] at z1
            have ey : i = y.1 := Option.some.inj z1
            have h1' : SqT X.K H a va := Same.seqT s2 (Same.seqT s1 ha)
            refine ⟨⟨va, v2, h1', z3⟩, fun x H' y' => ?_⟩
            obtain ⟨T, u, rfl, hT, rfl, y1⟩ := y'
            have e2 := y1 _ h1'
            rw [z3] at e2
            cases e2
            exact ⟨T, _, _, rfl, hT, rfl, by show Rep g X.K S' (V.int ((i : Nat) : Int)) (D.int ((y.1 : Nat) : Int)); rw [← ey]; exact .int _, r2.mono s1⟩
        · refine ⟨va, Same.seqT s2 (Same.seqT s1 ha), ?_⟩
          rw [ra.length]
          simpa using hl
  · exact h1.elim
end
theorem v_enumE_l {l : List D} {τ : DS} : enumE [.lst l] τ = .ok (enumL 0 l) τ := (rfl)
theorem v_enumE_t {l : List D} {τ : DS} : enumE [.tup l] τ = .ok (enumL 0 l) τ := (rfl)
end DL
set_option maxHeartbeats 1000000
namespace DL
open PySem PySem.Spec PyProof.Rows L2
section
variable {g : Gm} {K : PySem.W.Frag} {W : WX} {σ : St} {τ : DS} {H0 H S : Hp} {O : Addr → Prop}
def LentA (O : Addr → Prop) (vs : List V) (H S : Hp) (a : Addr) : Prop := ¬ O a ∧ V.ref a ∈ vs ∧ S a = none ∧ ∃ xs, H a = some (.lst xs)
open Classical in
noncomputable def lendH (O : Addr → Prop) (vs : List V) (H S : Hp) : Hp := fun a => if LentA O vs H S a then H a else S a
open Classical in
noncomputable def backH (O : Addr → Prop) (vs : List V) (H S S' : Hp) : Hp := fun a => if LentA O vs H S a then none else S' a
end
end DL
set_option maxHeartbeats 1000000
namespace DL
open PySem PySem.Spec PyProof.Rows L2
end DL
set_option maxHeartbeats 1000000
namespace DL
open PySem
section
variable {mt : D → DS → Option DS} {mb : DS → SRes} {α : Type}
theorem for_stA (st : Nat → α → DS) : ∀ (xs : List D) (k : Nat) (step : ∀ i x, xs[i]? = some x → ∀ z, ∃ τ1 z', mt x (st (k + i) z) = some τ1 ∧ (mb τ1 = .nx (st (k + i + 1) z') ∨ mb τ1 = .ct (st (k + i + 1) z'))) (z : α), ∃ z', forL mt mb xs (st k z) = .nx (st (k + xs.length) z')
  | [], k, step, z => ⟨z, by rw [v_for0]; rfl⟩
  | x :: xs, k, step, z => by
    obtain ⟨τ1, z1, h1, h2⟩ := step 0 x rfl z
    obtain ⟨z', h3⟩ := for_stA st xs (k + 1) (fun i y hy w => by
      have := step (i + 1) y (by simpa using hy) w
      rw [show k + (i + 1) = k + 1 + i by omega] at this
      exact this) z1
    refine ⟨z', ?_⟩
    rw [v_for1]
    rw [Nat.add_zero] at h1 h2
    rw [h1, v_kfor]
    rw [List.length_cons, show k + (xs.length + 1) = k + 1 + xs.length by omega]
    rcases h2 with h2 | h2
    · rw [h2, v_kfor_nx]; exact h3
    · rw [h2, v_kfor_ct]; exact h3
theorem for_st (st : Nat → α → DS) {xs : List D} (step : ∀ i x, xs[i]? = some x → ∀ z, ∃ τ1 z', mt x (st i z) = some τ1 ∧ mb τ1 = .nx (st (i + 1) z')) (z : α) : ∃ z', forL mt mb xs (st 0 z) = .nx (st xs.length z') := by
  have := for_stA (mt := mt) (mb := mb) st xs 0 (fun i x hx z => by
    obtain ⟨τ1, z', h1, h2⟩ := step i x hx z
    rw [Nat.zero_add]
    exact ⟨τ1, z', h1, .inl h2⟩) z
  rwa [Nat.zero_add] at this
def AnyEnd (st : α → DS) (r : RV) (b : Bool) (x : SRes) : Prop := match b with
  | true => ∃ τ2, x = .rt r τ2
  | false => ∃ z', x = .nx (st z')
theorem AnyEnd.of {st : α → DS} {r : RV} {b : Bool} {x : SRes} (z : α) (τ2 : DS) (h : x = cond b (.rt r τ2) (.nx (st z))) : AnyEnd st r b x := by
  cases b
  · exact ⟨z, h⟩
  · exact ⟨τ2, h⟩
theorem AnyEnd.t {st : α → DS} {r : RV} {x : SRes} (h : AnyEnd st r true x) : ∃ τ2, x = .rt r τ2 := h
theorem AnyEnd.f {st : α → DS} {r : RV} {x : SRes} (h : AnyEnd st r false x) : ∃ z', x = .nx (st z') := h
end
theorem comp_f {α : Type} {vs : List Nat} {mt : D → DS → Option DS} {mc : DS → Res Bool} {me : DS → Res RV} {τ : DS} (g : α → D) (p : α → Bool) (f : α → D) : ∀ {l : List α}
    (step : ∀ s ∈ l, ∃ τ1, mt (g s) (wipeT τ vs) = some τ1 ∧ mc τ1 = .ok (p s) τ1 ∧ unwipe τ τ1 vs = τ ∧ (p s = true → me τ1 = .ok (.dat (f s)) τ1)) (acc : List D) (hl : acc.length + l.length ≤ bigN),
    compL vs mt mc me (l.map g) acc τ = .ok (acc ++ (l.filter p).map f) τ
  | [], _, acc, _ => by simp [compL]
  | x :: l, step, acc, hl => by
    obtain ⟨τ1, h1, h2, h3, h4⟩ := step x List.mem_cons_self
    rw [List.length_cons] at hl
    rw [List.map_cons]
    unfold compL
    rw [h1]
    dsimp only
    rw [h2]
    have st := fun s hs => step s (List.mem_cons_of_mem _ hs)
    cases hp : p x with
    | false =>
      dsimp only
      rw [h3, comp_f g p f st acc (by omega), List.filter_cons_of_neg (by rw [hp]; exact Bool.false_ne_true)]
    | true =>
      dsimp only
      rw [h4 hp]
      show (if acc.length < bigN then compL vs mt mc me (l.map g) (acc ++ [f x]) (unwipe τ τ1 vs) else .stuck) = _
      rw [if_pos (by omega), h3, comp_f g p f st (acc ++ [f x]) (by rw [List.length_append, List.length_singleton]; omega), List.filter_cons_of_pos hp, List.map_cons, List.append_assoc]
      rfl
theorem comp_f0 {α : Type} {vs : List Nat} {mt : D → DS → Option DS} {mc : DS → Res Bool} {me : DS → Res RV} {τ : DS} (g : α → D) (p : α → Bool) (f : α → D) {l : List α} (hl : l.length ≤ 900000)
    (step : ∀ s ∈ l, ∃ τ1, mt (g s) (wipeT τ vs) = some τ1 ∧ mc τ1 = .ok (p s) τ1 ∧ unwipe τ τ1 vs = τ ∧ (p s = true → me τ1 = .ok (.dat (f s)) τ1)) :
    compL vs mt mc me (l.map g) [] τ = .ok ((l.filter p).map f) τ :=
  (comp_f g p f step [] (by show (0 : Nat) + _ ≤ 1000000; omega)).trans (by rw [List.nil_append])
theorem comp_a0 {α : Type} {vs : List Nat} {mt : D → DS → Option DS} {me : DS → Res RV} {τ : DS} (g : α → D) (f : α → D) {l : List α} (hl : l.length ≤ 900000)
    (step : ∀ s ∈ l, ∃ τ1, mt (g s) (wipeT τ vs) = some τ1 ∧ unwipe τ τ1 vs = τ ∧ me τ1 = .ok (.dat (f s)) τ1) :
    compL vs mt mYes me (l.map g) [] τ = .ok (l.map f) τ := by
  have := comp_f0 (vs := vs) (mt := mt) (mc := mYes) (me := me) (τ := τ) g (fun _ => true) f hl (fun s hs => by
    obtain ⟨τ1, h1, h2, h3⟩ := step s hs
    exact ⟨τ1, h1, rfl, h2, fun _ => h3⟩)
  rwa [List.filter_eq_self.mpr (fun _ _ => rfl)] at this
end DL
set_option maxHeartbeats 1000000
namespace DL
open PySem
theorem v_tuple_l {ds : List D} : tupleD [.lst ds] = some (.dat (.tup ds)) := (rfl)
theorem v_tuple_t {ds : List D} : tupleD [.tup ds] = some (.dat (.tup ds)) := (rfl)
theorem ixN_nat {n i : Nat} (h : i < n) : L2.ixN n (i : Int) = some i := by
  unfold L2.ixN
  rw [if_pos (by omega), if_pos (by omega)]
  rfl
theorem popAt_eq {xs : List D} {i : Nat} {d : D} (h : xs[i]? = some d) (hl : xs.length ≤ bigN) : fPopAt xs [.int (i : Int)] = some (d, xs.eraseIdx i) := by
  have hi : i < xs.length := (List.getElem?_eq_some_iff.mp h).1
  show (if xs.length ≤ bigN then (L2.ixN xs.length (i : Int)).bind fun j => (xs[j]?).map fun d => (d, xs.eraseIdx j) else none) = _
  rw [if_pos hl, ixN_nat hi]
  show (xs[i]?).map (fun d => (d, xs.eraseIdx i)) = _
  rw [h]
  rfl
end DL
set_option maxHeartbeats 1000000
namespace DL
open PySem PySem.Spec PyProof.Rows L2
end DL
set_option maxHeartbeats 1000000
namespace DL
open PySem PySem.Spec PyProof PyProof.Rows L2
end DL
set_option maxHeartbeats 1000000
namespace DL
open PySem PySem.Spec PyProof PyProof.Rows L2
end DL
set_option maxHeartbeats 1000000
namespace DL
open PySem PySem.Spec PyProof PyProof.Rows L2 Srt
end DL
set_option maxHeartbeats 1000000
namespace DL
open PySem PySem.Spec PyProof.Rows L2
end DL
set_option maxHeartbeats 1000000
namespace DL
open PySem
def Cl : Nat → D → Prop
  | 0, _ => False
  | k + 1, d => match d with
    | .non => True
    | .int _ => True
    | .str x => PyData.strOk x = true
    | .tup ds => ds.length ≤ 100000 ∧ ∀ x ∈ ds, Cl k x
    | .lst ds => ds.length ≤ 100000 ∧ ∀ x ∈ ds, Cl k x
    | _ => False
theorem Cl.good : ∀ {k : Nat} {d : D}, Cl k d → Good k d
  | 0, _, h => h.elim
  | k + 1, d, h => by
    cases d with
    | non => trivial
    | int i => trivial
    | str x => exact h
    | tup ds => exact ⟨h.1, fun x hx => (h.2 x hx).good⟩
    | lst ds => exact ⟨h.1, fun x hx => (h.2 x hx).good⟩
    | _ => exact h.elim
theorem cl_eqv : ∀ (k : Nat) {d e : D} {p q : PyData}, Cl k d → Cl k e → pyD d = some p → pyD e = some q → (PyData.eqv p q = true ↔ d = e) := by
  intro k
  induction k with
  | zero => intro d e p q h; exact h.elim
  | succ k ih =>
    have all : ∀ (ds es : List D) (ps qs : List PyData), (∀ x ∈ ds, Cl k x) → (∀ x ∈ es, Cl k x) → pyDs ds = some ps → pyDs es = some qs → (PyData.eqvAll ps qs = true ↔ ds = es) := by
      intro ds
      induction ds with
      | nil =>
        intro es ps qs _ he h1 h2
        cases h1
        cases es with
        | nil => cases h2; simp [PyData.eqvAll]
        | cons e es =>
          obtain ⟨p, e1, _⟩ := (he e List.mem_cons_self).good.py
          unfold pyDs at h2
          rw [e1] at h2
          cases q2 : pyDs es with
          | none => rw [q2] at h2; cases h2
          | some qs' => rw [q2] at h2; cases h2; simp [PyData.eqvAll]
      | cons d ds ihd =>
        intro es ps qs hd he h1 h2
        obtain ⟨p, e1, _⟩ := (hd d List.mem_cons_self).good.py
        unfold pyDs at h1
        rw [e1] at h1
        cases q1 : pyDs ds with
        | none => rw [q1] at h1; cases h1
        | some ps' =>
          rw [q1] at h1
          cases h1
          cases es with
          | nil => cases h2; simp [PyData.eqvAll]
          | cons e es =>
            obtain ⟨q, e2, _⟩ := (he e List.mem_cons_self).good.py
            unfold pyDs at h2
            rw [e2] at h2
            cases q2 : pyDs es with
            | none => rw [q2] at h2; cases h2
            | some qs' =>
              rw [q2] at h2
              cases h2
              have i1 := ih (hd d List.mem_cons_self) (he e List.mem_cons_self) e1 e2
              have i2 := ihd es ps' qs' (fun x hx => hd x (List.mem_cons_of_mem _ hx)) (fun x hx => he x (List.mem_cons_of_mem _ hx)) q1 q2
              rw [PyData.eqvAll, Bool.and_eq_true_iff, i1, i2, List.cons.injEq]
    have lst : ∀ {ds : List D} {r : PyData} {f : List PyData → PyData}, (pyDs ds).map f = some r → ∃ ps, pyDs ds = some ps ∧ r = f ps := fun {ds r f} h => by
      cases q : pyDs ds with
      | none => rw [q] at h; cases h
      | some ps => rw [q] at h; cases h; exact ⟨ps, rfl, rfl⟩
    intro d e p q hd he h1 h2
    cases d <;> first | exact hd.elim | skip
    all_goals cases e <;> first | exact he.elim | skip
    all_goals unfold pyD at h1 h2
    case tup.tup ds es =>
      obtain ⟨ps, a1, rfl⟩ := lst h1
      obtain ⟨qs, a2, rfl⟩ := lst h2
      rw [PyData.eqv, all ds es ps qs hd.2 he.2 a1 a2, D.tup.injEq]
    case lst.lst ds es =>
      obtain ⟨ps, a1, rfl⟩ := lst h1
      obtain ⟨qs, a2, rfl⟩ := lst h2
      rw [PyData.eqv, all ds es ps qs hd.2 he.2 a1 a2, D.lst.injEq]
    all_goals
      first
        | (obtain ⟨ps, a1, rfl⟩ := lst h1
           first
             | (obtain ⟨qs, a2, rfl⟩ := lst h2; simp [PyData.eqv]; done)
             | (cases h2; simp [PyData.eqv]; done))
        | (cases h1
           first
             | (obtain ⟨qs, a2, rfl⟩ := lst h2; simp [PyData.eqv]; done)
             | (cases h2; simp [PyData.eqv]; done))
section
variable {α : Type} [DecidableEq α] {k : Nat}
theorem pyDs_any {d : D} {p : PyData} (hd : Cl k d) (e1 : pyD d = some p) : ∀ {es : List D} {qs : List PyData}, (∀ x ∈ es, Cl k x) → pyDs es = some qs → (qs.any (fun z => PyData.eqv z p) = true ↔ d ∈ es)
  | [], _, _, h => by cases h; simp
  | e :: es, qs, he, h => by
    obtain ⟨q, e2, _⟩ := (he e List.mem_cons_self).good.py
    unfold pyDs at h
    rw [e2] at h
    cases q2 : pyDs es with
    | none => rw [q2] at h; cases h
    | some qs' =>
      rw [q2] at h
      cases h
      have i := pyDs_any hd e1 (fun x hx => he x (List.mem_cons_of_mem _ hx)) q2
      have j := cl_eqv k (he e List.mem_cons_self) hd e2 e1
      rw [List.any_cons, Bool.or_eq_true_iff, i, j, List.mem_cons]
      constructor
      · rintro (h | h)
        · exact .inl h.symm
        · exact .inr h
      · rintro (h | h)
        · exact .inl h.symm
        · exact .inr h
theorem notIn_inj {f : α → D} {a : α} {l : List α} (hf : ∀ b ∈ l, f a = f b → a = b) (hd : Cl k (f a)) (hc : ∀ b ∈ l, Cl k (f b)) (hl : l.length ≤ 100000) (hk : k + 1 ≤ 64) : notInD (f a) (.lst (l.map f)) = some (.dat (.bl (!decide (a ∈ l)))) := by
  have hall : ∀ x ∈ l.map f, Cl k x := fun x hx => by
    obtain ⟨b, hb, rfl⟩ := List.mem_map.mp hx
    exact hc b hb
  have hl2 : Cl (k + 1) (.lst (l.map f)) := ⟨by rw [List.length_map]; exact hl, hall⟩
  obtain ⟨p, e1, e2, _⟩ := hd.good.shaped (by omega)
  obtain ⟨q, f1, f2, _⟩ := hl2.good.shaped hk
  unfold pyD at f1
  cases q2 : pyDs (l.map f) with
  | none => rw [q2] at f1; cases f1
  | some qs =>
    rw [q2] at f1
    cases f1
    have h := pyDs_any hd e1 hall q2
    unfold notInD inB
    rw [e1]
    show Option.map _ ((pyDs (l.map f)).bind _) = _
    rw [q2]
    show Option.map _ (if SeqAt.shaped p = true ∧ SeqAt.shaped (.list qs) = true then some (qs.any fun z => PyData.eqv z p) else none) = _
    rw [if_pos ⟨e2, f2⟩]
    have g : (qs.any fun z => PyData.eqv z p) = decide (a ∈ l) := by
      have m : f a ∈ l.map f ↔ a ∈ l := by
        constructor
        · intro hm
          obtain ⟨b, hb, e⟩ := List.mem_map.mp hm
          rw [hf b hb e.symm]; exact hb
        · exact fun hm => List.mem_map.mpr ⟨a, hm, rfl⟩
      rw [m] at h
      cases c : (qs.any fun z => PyData.eqv z p)
      · rw [c] at h
        exact (decide_eq_false fun z => Bool.noConfusion (h.mpr z)).symm
      · rw [c] at h
        exact (decide_eq_true (h.mp rfl)).symm
    rw [g]
    rfl
end
end DL
set_option maxHeartbeats 3200000
namespace DL
open PySem PySem.Spec PyProof.Rows L2
section
variable {P : Program} {w : World} {A : Around} {E : Value → Shared → Prop} {s : Shared}
theorem set_of_intsT {t : Addr} {its : Array Value} (ns : List Int) {Q : Value → Shared → Prop} (quiet : A.handled = none) (ht : s.heap.IsTuple t its) (hi : IntsAre its.toList ns) (few : ns.length + 1 < scanBound)
    (fin : ∀ (g : Heap) (tk : Nat) T m, SetR w g s.heap.objs.size T m → m ≤ ns.length → (∀ x, T x = true ↔ x ∈ ns) → (∀ b o, s.heap.get? b = some o → g.get? b = some o) → Q (.ref s.heap.objs.size) { s with heap := g, toks := tk }) :
    wpAny (model P w) A (call (.type "set") [.ref t]) Q E s := by
  have hlen : ∀ {vs : List Value} {ms : List Int}, IntsAre vs ms → vs.length = ms.length := fun h => by
    induction h with
    | nil => rfl
    | cons _ _ _ ih => rw [List.length_cons, List.length_cons, ih]
  have sz : its.size = ns.length := by rw [← Array.length_toList]; exact hlen hi
  obtain ⟨c0, tl0, m0⟩ := F.called_set.mro
  have d1 := F.called_set.made
  have d2 := F.called_set.sub
  have d3 := F.called_set.notType
  have d4 := F.called_set.canCreate
  refine wpAny_call (codeAny_of_tree ?_)
  show wpAny _ _ (callAny (.type "set") _) _ _ _
  refine wpAny_pure ⟨Code.quiet_builtin _ (by decide +kernel), codeAny_builtin F.entry_type_call ?_⟩
  rw [Around.under_plain (weight_type_call_type "set" [.ref t] []) rfl]
  have d5 := F.typeCall_set_1 (.ref t)
  repeat (any_goals (first | assumption | wp_step))
  refine codeAny_mono (code_set_led1 (.ref t) (E := E) (Q₁ := fun ob z => ob = .ref s.heap.objs.size ∧ z = { s with heap := s.heap.push (set0 w) }) ⟨rfl, rfl⟩) fun r z hr => ?_
  cases r with
  | error e => exact hr
  | ok fl =>
    cases fl with
    | ret ob =>
      obtain ⟨rfl, rfl⟩ := hr
      have gS : (s.heap.push (set0 w)).get? s.heap.objs.size = some (set0 w) := Heap.get?_push_size _ rfl
      have tS : Shared.TypeIs { s with heap := s.heap.push (set0 w) } (.ref s.heap.objs.size) "set" := ⟨_, gS, rfl⟩
      have d6 := F.called_set.init.lookup
      have d7 := F.called_set.init.bind (.ref s.heap.objs.size)
      repeat (any_goals (first | assumption | wp_step))
      refine codeAny_mono (codeAny_call_builtin (R := wants (fun r z2 => r = .none ∧ ∃ g tk T m, z2 = { s with heap := g, toks := tk } ∧ SetR w g s.heap.objs.size T m ∧ m ≤ ns.length ∧ (∀ x, T x = true ↔ x ∈ ns) ∧
          (∀ b o, s.heap.get? b = some o → g.get? b = some o)) E) F.called_set.init.plain F.entry_set_init (check_set_init_1 tS ?_)) fun r2 z2 hr2 => ?_
      · obtain ⟨ot, ho, hc, nt, hd⟩ := ht
        obtain ⟨oc, od, oda, os⟩ := ot
        simp only at hc hd
        subst hc; subst hd
        have ho' : (s.heap.push (set0 w)).get? t = some ⟨.type "tuple", od, .seq its nt, os⟩ := Heap.get?_push_of_some _ ho
        have d8 := F.sub_tuple_set
        have d9 := F.sub_tuple_frozenset
        have dn : (Value.type "tuple" == Value.type "dict") = false := by decide
        have t1 : (s.heap.push (set0 w)).IsTuple t its := ⟨_, ho', rfl, nt, rfl⟩
        unfold Builtin.«set.__init__» noKeywords Builtin.Frozenset.updateFrom
        generalize hPI : pyIter = PI
        wp_walk
        subst hPI
        refine wpAny_pyIter_tuple t1 ?_
        refine wpAny_bind (wpAny_runValue ?_)
        have lt : t < s.heap.objs.size := Heap.lt_size ho
        have q3 : A.in1.in1.in1.handled = none := by simp [quiet]
        have neI : t ≠ (s.heap.push (set0 w)).objs.size := by
          rw [Heap.size_push]; exact Nat.ne_of_lt (Nat.lt_succ_of_lt lt)
        have nin : s.heap.objs.size ∉ [(s.heap.push (set0 w)).objs.size, t] := by
          rw [Heap.size_push]
          intro hm
          rcases List.mem_cons.mp hm with q | q
          · exact Nat.ne_of_lt (Nat.lt_succ_self _) q
          · exact Nat.ne_of_gt lt (List.mem_singleton.mp q)
        have val : ∀ (i : Nat) (v : Value), its[i]? = some v → ∃ k tk, ns[i]? = some k ∧ v = .int k tk := fun i v hv => by
          have q : its.toList[i]? = some v := by simpa using hv
          have key : ∀ {vs : List Value} {ms : List Int}, IntsAre vs ms → ∀ i : Nat, vs[i]? = some v → ∃ k tk, ms[i]? = some k ∧ v = .int k tk := fun h => by
            induction h with
            | nil => intro i e; cases e
            | cons n tk _ ih =>
              intro i e
              cases i with
              | zero => exact ⟨n, tk, rfl, by simpa using e.symm⟩
              | succ i => exact ih i (by simpa using e)
          exact key hi i q
        have out : ∀ b, s.heap.objs.size ≤ b → s.heap.get? b = none := fun b hb => by
          cases q : s.heap.get? b with
          | none => rfl
          | some o => exact absurd (Heap.lt_size q) (Nat.not_lt.mpr hb)
        refine upd_ints ((Walks.tuple q3 _ t neI its).toS) s.heap.objs.size nin ns sz few val s.heap (out _ (Nat.le_refl _)) (fun b hb => out b (by rw [List.mem_singleton.mp hb, Heap.size_push]; exact Nat.le_succ _)) (its.size - 0) 0 _ (by omega) (Nat.zero_le _)
          ⟨⟨_, Heap.get?_push_size _ rfl, rfl, rfl⟩, t1.push _⟩ (fun b o e => Heap.get?_push_of_some _ (Heap.get?_push_of_some _ e)) ⟨_, 0, (setR_fresh w).at fun o e => Heap.get?_push_of_some _ e, Nat.le_refl _, fun x => by simp⟩ ?_
        intro z3 T m mv hS hm hT kp
        obtain ⟨g, g2, dr, tk, os3⟩ := z3
        have e1 : g2 = s.gens := mv.gens
        have e2 : dr = s.drawn := mv.drawn
        have e3 : os3 = s.os := mv.os
        subst e1; subst e2; subst e3
        rw [sz] at hm
        show wpAny _ _ _ _ _ _
        refine wpAny_pure ?_
        show wpAny _ _ (ret Value.none) _ _ _
        exact wpAny_pure ⟨rfl, g, tk, T, m, rfl, hS, hm, hT, kp⟩
      · cases r2 with
        | error e => exact hr2
        | ok fl2 =>
          cases fl2 with
          | ret r =>
            obtain ⟨rfl, g, tk, T, m, rfl, hS, hm, hT, kp⟩ := hr2
            repeat (any_goals (first | assumption | wp_step))
            exact fin _ _ _ _ hS hm hT kp
          | _ => exact hr2.elim
    | _ => exact hr.elim
end
section
variable {X : Cx}
def rSetM3 (K : PySem.W.Frag) (P : Program) (w : World) : List V → Hp → VK → Prop := fun xs H Q => rSetM K P w xs H Q ∨ ∃ (l : Addr) (ns : List Int), xs = [V.ref l] ∧ SqT K H l (ns.map V.int) ∧ ns.length < 64 ∧ ∀ a T m, H a = none → m ≤ ns.length → (∀ x, T x = true ↔ x ∈ ns) → Q (.ref a) (upd H a (SetO w a T m))
theorem cr_setM3 (hc : X.calm = true) (hu : X.A.units + 65 < cLine) : CallR X (.type "set") (rSetM3 X.K X.prog X.w) := by
  intro pins s σ H xs us Q I r h
  rcases h with h | ⟨l, ns, e, hl, few, q⟩
  · exact cr_setM hc hu pins s σ H xs us Q I r h
  · subst e
    rw [Vals.ref1 r]
    obtain ⟨its, rv, pl, _⟩ := I.tuple hl
    obtain ⟨ot, o1, o2, n0, o3⟩ := pl
    have fresh : H s.heap.objs.size = none := I.hok.fresh (Nat.le_refl _)
    refine set_of_intsT (P := X.prog) (w := X.w) ns (I.ok.hd hc) (its := its.toArray) ⟨ot, o1, o2, n0, o3⟩ (by simpa using rv.ints) (by unfold scanBound; omega) fun g0 tk T m R hm hT kp => ?_
    exact ⟨.ref s.heap.objs.size, upd H s.heap.objs.size (SetO X.w s.heap.objs.size T m), I.laid (t' := tk) kp (Nat.le_refl _) (setO_new R), rfl, q _ T m fresh hm hT⟩
end
def ssD3 (d : D) : Option RV := match d with
  | .lst ds => ss2 ds
  | .rol ds => ss2 ds
  | .tup ds => ss2 ds
  | _ => none
def mSS3 (ma : DS → Res RV) : DS → Res RV := mUn ssD3 ma
section
variable {X : Cx} {g : Gm} {W : WX} {e : Expr} {ma : DS → Res RV} {p p2 pos pos2 : Pos}
theorem pe_sset3 {te : TE} (hc : X.calm = true) (hu : X.A.units + 65 < cLine) (hg : Gl X "sorted") (hm : X.mg "sorted" = none) (hg2 : Gl X "set") (hm2 : X.mg "set" = none) (he : PE X e te)
    (hs : starEach [e] X.env = (false, eval e X.env) :: starEach [] X.env := by rfl)
    (hs2 : starEach [.Call (.Name "set" p2) [e] [] pos2] X.env = (false, eval (.Call (.Name "set" p2) [e] [] pos2) X.env) :: starEach [] X.env := by rfl) :
    PE X (.Call (.Name "sorted" p) [.Call (.Name "set" p2) [e] [] pos2] [] pos) (tCB (rSortM X.K X.prog X.w) (tCons (tCB (rSetM3 X.K X.prog X.w) (tCons te tNil)) tNil)) :=
  pe_callB (cr_sortM hc hu) hg hm bt_sorted (pa_cons (pe_callTy (cr_setM3 hc hu) hg2 hm2 bt_set (pa_cons he pa_nil hs) (he := hs)) pa_nil hs2) (he := hs2)
theorem ss3_endT {K : PySem.W.Frag} {P : Program} {w : World} {σ : L2.St} {τ : DS} {H S : Hp} {x : V} {a : Addr} {vs : List V} {ds : List D} {Q : VK} (A : Abs g K σ H τ S) (hx : x = .ref a) (ha : SqT K H a vs) (rl : RepL g K S vs ds) (h : EndV g K σ τ H S (ss2 ds) Q) :
    rSetM3 K P w [x] H fun y H2 => rSortM K P w [y] H2 Q := by
  unfold ss2 at h
  split at h
  · subst hx
    unfold siE at h
    obtain ⟨ns, en, h⟩ := h.bind_
    obtain ⟨few, h⟩ := h.if_
    rw [allInts_eq en] at rl
    have z := rl.ints
    subst z
    refine .inr ⟨a, ns, rfl, ha, few, fun b T m hb hm hT => .inr ⟨b, T, m, rfl, upd_same, by omega, fun ks c srt mem len hc => ?_⟩⟩
    have ek : ks = siL ns := int_uniq srt (si_srt ns) fun z => by rw [mem, hT, si_mem]
    have A1 := A.priv hb (SetO w b T m)
    have A2 := A1.priv hc (.lst (ks.map V.int))
    refine h _ _ S A2 ((A.ext_priv hb _).trans (A1.ext_priv hc _)) (.fr ?_ upd_same (A1.sn hc) (Own.not_new A1 hc) (.lst ?_))
    · by_cases q : c = b
      · rw [q]; exact hb
      · rw [upd_ne q] at hc; exact hc
    · rw [ek]; exact RepL.of_ints
  · exact .inl (.inl ((ss_end A hx (.inr ha) rl h).weak fun _ _ q => .inl q))
theorem de_sset3 (hc : X.calm = true) (hu : X.A.units + 65 < cLine) (hg : Gl X "sorted") (hm : X.mg "sorted" = none) (hg2 : Gl X "set") (hm2 : X.mg "set" = none) (ha : DE X g W e ma)
    (hs : starEach [e] X.env = (false, eval e X.env) :: starEach [] X.env := by rfl)
    (hs2 : starEach [.Call (.Name "set" p2) [e] [] pos2] X.env = (false, eval (.Call (.Name "set" p2) [e] [] pos2) X.env) :: starEach [] X.env := by rfl) :
    DE X g W (.Call (.Name "sorted" p) [.Call (.Name "set" p2) [e] [] pos2] [] pos) (mSS3 ma) := by
  refine ⟨PE.imp (pe_sset3 hc hu hg hm hg2 hm2 ha.pe hs hs2) fun σ H Q h => (one h).mono fun x H1 ⟨τ, S, dx, A, sh, h1⟩ => ?_⟩
  unfold ssD3 at h1
  split at h1
  · obtain ⟨a, vs, e1, e2, rl⟩ := sh.lst A.le
    exact .inl (ss2_end A e1 (SqL.of e2) rl h1)
  · obtain ⟨a, vs, e1, e2, rl⟩ := sh.rol A.le
    exact .inl (ss2_end A e1 e2 rl h1)
  · obtain ⟨a, vs, e1, e2, rl⟩ := sh.tup A.le
    exact ss3_endT A e1 e2 rl h1
  · exact h1.elim
end
section
variable {ma : DS → Res RV} {τ : DS} {ds : List D} {ns : List Int}
theorem v_mSS3 : mSS3 ma τ = (ma τ).bind (op1 ssD3) := (rfl)
theorem v_ss3_l : ssD3 (.lst ds) = ss2 ds := (rfl)
theorem v_ss3_t : ssD3 (.tup ds) = ss2 ds := (rfl)
end
end DL
set_option maxHeartbeats 1600000
namespace DL
open PySem PySem.Spec PyProof.Rows L2
section
variable {X : Cx} {g : Gm} {W : WX} {σ : St} {τ : DS} {H S : Hp} {K : PySem.W.Frag}
theorem EndV.ptp {ds : List D} {vs : List V} {Q : VK} (h : EndV g K σ τ H S (some (.dat (.ptp ds))) Q) (A : Abs g K σ H τ S) (r : RepL g K S vs ds) {o : Obj} (ho : o.dict = none) : ∀ p, H p = none → Q (.ref p) (upd H p (.frz o (.tup vs))) := fun p hp =>
  h _ _ _ (A.new hp _) (A.ext_new hp _) (.dat (.ptp upd_same ho (r.mono (Same.upd_new (A.sn hp)))))
theorem Shown.ptp {v : V} {ds : List D} (x : Shown g K H S v (.ptp ds)) : ∃ a o vs, v = .ref a ∧ S a = some (.frz o (.tup vs)) ∧ o.dict = none ∧ RepL g K S vs ds := by
  generalize hd : D.ptp ds = d at x
  cases x with
  | rep r =>
    subst hd
    cases r with
    | ptp h ho r => exact ⟨_, _, _, rfl, h, ho, r⟩
  | own h r => cases r <;> cases hd
end
end DL
set_option maxHeartbeats 1600000
namespace DL
open PySem PySem.Spec PyProof.Rows L2
end DL
set_option maxHeartbeats 1600000
namespace DL
open PySem
end DL
set_option maxHeartbeats 1000000
namespace DL
open PySem PySem.Spec PyProof.Rows L2
section
variable {i n : Nat} {a : Addr} {b : Bool} {τ τ1 : DS} {cs : Nat → Option Bool} {mb : DS → SRes} {dd : Nat → D} {z : Int}
theorem v_int1_1 : int1D [.bl true] = some (.dat (.int 1)) := (rfl)
theorem v_int1_0 : int1D [.bl false] = some (.dat (.int 0)) := (rfl)
theorem v_add_l {xs ys : List D} (h : xs.length + ys.length ≤ 1000000) : addD (.lst xs) (.lst ys) = some (.fr (.lst (xs ++ ys))) := if_pos h
theorem v_add_t {xs ys : List D} (h : xs.length + ys.length ≤ 1000000) : addD (.tup xs) (.tup ys) = some (.dat (.tup (xs ++ ys))) := if_pos h
end
end DL
set_option maxHeartbeats 1000000
namespace DL
open PySem PySem.Spec PyProof.Rows L2
def nnN (p : PyData) : Bool := match p with
  | .none => false
  | _ => true
noncomputable def minOk (ds : List D) : Bool :=
  (ds.all fun d => (pyD d).isSome && nnN (pyE d)) && ((ds.all fun d => ds.all fun e => PySem.W.alike (pyE d) (pyE e)) && decide (PyData.depthAll (ds.map pyE) ≤ 60))
noncomputable def bestD (x : D) (xs : List D) : D := xs.foldl (fun a y => if PySem.W.dataLt (pyE y) (pyE a) then y else a) x
theorem getD_pyE (ds : List D) (i : Nat) : (ds.map pyE).getD i .none = pyE (ds.getD i .non) := by
  rw [List.getD_eq_getElem?_getD, List.getD_eq_getElem?_getD, List.getElem?_map]
  cases ds[i]? with
  | none => rfl
  | some d => rfl
open PySem.W in
theorem min_list_ix {prog : Program} {w : World} {A : Around} {E : Value → Shared → Prop} {s : Shared} {l : Addr} {vs : Array Value} {x : D} {xs : List D} {as : List Addr} {Q : Value → Shared → Prop} (hh : A.handled = none) (hl : s.heap.IsList l vs) (hr : ReadsAll s.heap vs.toList ((x :: xs).map pyE) as) (ha : AlikeAll ((x :: xs).map pyE)) (hu : A.units + 1 + PyData.depthAll ((x :: xs).map pyE) < cLine)
    (h : ∀ (i : Nat) v h' tk, vs[i]? = some v → (x :: xs)[i]? = some (bestD x xs) → (∀ b o, s.heap.get? b = some o → h'.get? b = some o) → Q v { s with heap := h', toks := tk }) :
    wpAny (model prog w) A (call (.builtin "min") [.ref l]) Q E s := by
  have hn : vs.size = xs.length + 1 := by
    have := readsAll_len hr
    rw [List.length_map] at this
    exact this
  refine call_min_walkH (iter_listW (A := A.in1) hh hl fun s₂ e W st hfp hw hk => ?_)
  refine ⟨_, _, _, _, _, _, _, s.heap, _, rfl, W, st, hfp, by omega, hw, hk, cmpIn_lt (A := A.in1) hr ha (by show A.units + 1 + _ < _; exact hu), fun v s' hP m => ?_⟩
  obtain ⟨h', tk, rfl, hk'⟩ := moved_old e rfl m
  have e1 : vs.size - 1 = xs.length := by omega
  have e0 : (fun i j => dataLt (((x :: xs).map pyE).getD i .none) (((x :: xs).map pyE).getD j .none)) = fun i j => dataLt (pyE ((x :: xs).getD i .non)) (pyE ((x :: xs).getD j .non)) := by
    funext i j
    rw [getD_pyE, getD_pyE]
  obtain ⟨e3, e2⟩ := argBest_fold (fun a b => dataLt (pyE a) (pyE b)) D.non x xs xs.length (Nat.le_refl _)
  rw [List.take_length] at e2
  rw [e1, e0] at hP
  refine h _ v h' tk hP ?_ hk'
  have hlt : argBest (fun i j => dataLt (pyE ((x :: xs).getD i .non)) (pyE ((x :: xs).getD j .non))) xs.length < (x :: xs).length := by
    rw [List.length_cons]; omega
  rw [List.getElem?_eq_getElem hlt]
  refine congrArg some ?_
  rw [List.getD_eq_getElem?_getD, List.getElem?_eq_getElem hlt] at e2
  exact e2
end DL
set_option maxHeartbeats 1000000
namespace DL
open PySem
abbrev Pt := Int × Int
def ptD (p : Pt) : D := .tup [.int p.1, .int p.2]
def rowP (l : List Pt) : D := .lst (l.map ptD)
open PySem.W PyProof.Rows in
theorem best_spec : ∀ (x : D) (xs : List D), bestD x xs ∈ x :: xs ∧ ∀ y ∈ x :: xs, PySem.W.dataLt (pyE y) (pyE (bestD x xs)) = false := by
  intro x xs
  induction xs generalizing x with
  | nil => exact ⟨List.mem_cons_self, fun y hy => by
      rw [List.mem_singleton] at hy
      subst hy
      exact PyProof.Rows.lex_irrefl _⟩
  | cons z xs ih =>
    have e : bestD x (z :: xs) = bestD (if PySem.W.dataLt (pyE z) (pyE x) then z else x) xs := rfl
    rw [e]
    obtain ⟨h1, h2⟩ := ih (if PySem.W.dataLt (pyE z) (pyE x) then z else x)
    generalize hb : bestD (if PySem.W.dataLt (pyE z) (pyE x) then z else x) xs = b at h1 h2
    by_cases c : PySem.W.dataLt (pyE z) (pyE x) = true
    · rw [if_pos c] at h1 h2
      refine ⟨List.mem_cons_of_mem _ h1, fun y hy => ?_⟩
      rcases List.mem_cons.mp hy with rfl | hy
      · have hz := h2 z List.mem_cons_self
        cases q : PySem.W.dataLt (pyE y) (pyE b) with
        | false => rfl
        | true =>
          have := PyProof.Rows.lex_trans (O := PyProof.Rows.itemOrd) _ _ _ c q
          rw [show PyProof.Rows.lexLt PyProof.Rows.itemOrd (PySem.W.keyToks (pyE z)) (PySem.W.keyToks (pyE b)) = PySem.W.dataLt (pyE z) (pyE b) from rfl, hz] at this
          cases this
      · exact h2 y hy
    · rw [if_neg c] at h1 h2
      refine ⟨?_, fun y hy => ?_⟩
      · rcases List.mem_cons.mp h1 with h | h
        · rw [h]; exact List.mem_cons_self
        · exact List.mem_cons_of_mem _ (List.mem_cons_of_mem _ h)
      · rcases List.mem_cons.mp hy with rfl | hy
        · exact h2 y List.mem_cons_self
        · rcases List.mem_cons.mp hy with rfl | hy
          · have hx := h2 x List.mem_cons_self
            cases q : PySem.W.dataLt (pyE y) (pyE b) with
            | false => rfl
            | true =>
              rcases PyProof.Rows.lex_negTrans (O := PyProof.Rows.itemOrd) _ (PySem.W.keyToks (pyE x)) _ q with h | h
              · exact absurd h c
              · rw [show PyProof.Rows.lexLt PyProof.Rows.itemOrd (PySem.W.keyToks (pyE x)) (PySem.W.keyToks (pyE b)) = PySem.W.dataLt (pyE x) (pyE b) from rfl, hx] at h
                cases h
          · exact h2 y (List.mem_cons_of_mem _ hy)
theorem allInts_none : ∀ {ds : List D}, (∀ d ∈ ds, ∀ i, d ≠ .int i) → ds ≠ [] → isSomeB (allInts ds) = false := by
  intro ds h hn
  cases ds with
  | nil => exact absurd rfl hn
  | cons d ds =>
    have := h d List.mem_cons_self
    cases d with
    | int i => exact absurd rfl (this i)
    | _ => rfl
def sixD (m : List Int) : D := .tup (m.map D.int)
def prD (p : List Pt × List Int) : D := .tup [rowP p.1, sixD p.2]
end DL
set_option maxHeartbeats 1000000
namespace DL
open PySem L2
end DL
set_option maxHeartbeats 1000000
namespace DL
open PySem
theorem cl_pt {k : Nat} {p : Pt} : Cl (k + 2) (ptD p) := ⟨by show 2 ≤ 100000; omega, fun x hx => by
  simp only [List.mem_cons, List.not_mem_nil, or_false] at hx
  rcases hx with rfl | rfl <;> trivial⟩
end DL
set_option maxHeartbeats 1000000
namespace DL
open PySem PySem.Spec PyProof.Rows L2
structure FnG (P : Program) (w : World) (K : PySem.W.Frag) (mg : Str → Option Value) (base : Heap) (CX : CXT) (k : Nat) (f : Addr) (fd : FuncData) (ps : List Str) (sp : Sp) : Prop where
  len : ∀ vs H Q E, sp vs H Q E → vs.length = ps.length
  run : ∀ (A : Around) (outer : List Env) (s : Shared) (H : Hp) (args : Args) (us : List Value) (vs : List V) (Q : VK) (E : XK), A.guards = some [] → Room k A → Env0 P w K mg base A outer s H → BindsTo s fd args (ps.zip us) → Vals vs us → sp vs H Q E →
    codeAny (model P w) A (.call (.ref f) args) (CR CX outer P w H s Q E) s
theorem FnG.imp {P : Program} {w : World} {K : PySem.W.Frag} {mg : Str → Option Value} {base : Heap} {CX : CXT} {k : Nat} {f : Addr} {fd : FuncData} {ps : List Str} {sp sp' : Sp} (F : FnG P w K mg base CX k f fd ps sp)
    (h : ∀ vs H Q E, sp' vs H Q E → sp vs H Q E) : FnG P w K mg base CX k f fd ps sp' := ⟨fun vs H Q E z => F.len vs H Q E (h _ _ _ _ z), fun A outer s H args us vs Q E hg hr e b r z => F.run A outer s H args us vs Q E hg hr e b r (h _ _ _ _ z)⟩
end DL
set_option maxHeartbeats 1000000
namespace DL
open PySem PySem.Spec PyProof.Rows L2
end DL
set_option maxHeartbeats 1000000
namespace DL
open PySem PySem.Spec PyProof.Rows L2
namespace ZL
section
variable {prog : Program} {w : World} {A : Around} {E : Value → Shared → Prop} {s : Shared}
structure ZAt (z TI TO i1 i2 l1 l2 : Addr) (xs ys : Array Value) (n : Nat) (h : Heap) : Prop where
  z : (n = 0 ∧ IsZip h z TI TO .none ∧ ∃ a b, IsPair h TO a b) ∨ ∃ T f oT, IsZipHeld h z TI TO T f ∧ h.get? T = some oT ∧ ¬ zCh z TO i1 i2 T
  ti : IsPair h TI (.ref i1) (.ref i2)
  a1 : h.IsListIter i1 l1 n
  a2 : h.IsListIter i2 l2 n
  b1 : h.IsList l1 xs
  b2 : h.IsList l2 ys
  to : ∃ o, h.get? TO = some o
variable {z TI TO i1 i2 l1 l2 : Addr} {xs ys : Array Value} {n : Nat}
theorem ZAt.keep {h h' : Heap} (Z : ZAt z TI TO i1 i2 l1 l2 xs ys n h) {S : Addr} (k : ∀ c o, c ≠ S → h.get? c = some o → h'.get? c = some o) (n1 : z ≠ S) (n2 : TI ≠ S) (n3 : TO ≠ S) (n4 : i1 ≠ S) (n5 : i2 ≠ S) (n6 : l1 ≠ S) (n7 : l2 ≠ S) (n8 : ∀ T f, IsZipHeld h z TI TO T f → T ≠ S) : ZAt z TI TO i1 i2 l1 l2 xs ys n h' where
  z := Z.z.imp (fun ⟨e, q, a, b, r⟩ => ⟨e, k _ _ n1 q, a, b, k _ _ n3 r⟩) fun ⟨T, f, oT, q, r, t⟩ => ⟨T, f, oT, k _ _ n1 q, k _ _ (n8 T f q) r, t⟩
  ti := k _ _ n2 Z.ti
  a1 := Z.a1.at fun o e => k _ _ n4 e
  a2 := Z.a2.at fun o e => k _ _ n5 e
  b1 := Z.b1.at fun o e => k _ _ n6 e
  b2 := Z.b2.at fun o e => k _ _ n7 e
  to := Z.to.imp fun o e => k _ _ n3 e
end
end ZL
end DL
set_option maxHeartbeats 1000000
namespace DL
open PySem PySem.Spec PyProof.Rows L2
noncomputable def bestX (x : D) (xs : List D) : D := xs.foldl (fun a y => if PySem.W.dataLt (pyE a) (pyE y) then y else a) x
noncomputable def maxLD : List D → Option RV
  | x :: xs => if minOk (x :: xs) = true then some (.dat (bestX x xs)) else none
  | [] => none
noncomputable def maxX (ds : List D) : Option RV := match ds with
  | [.tup xs] => maxLD xs
  | ds => maxD ds
open PySem.W in
theorem min_tuple_ix {prog : Program} {w : World} {A : Around} {E : Value → Shared → Prop} {s : Shared} {l : Addr} {vs : Array Value} {x : D} {xs : List D} {as : List Addr} {Q : Value → Shared → Prop} (hh : A.handled = none) (hl : s.heap.IsTuple l vs) (hr : ReadsAll s.heap vs.toList ((x :: xs).map pyE) as) (ha : AlikeAll ((x :: xs).map pyE)) (hu : A.units + 1 + PyData.depthAll ((x :: xs).map pyE) < cLine)
    (h : ∀ (i : Nat) v h' tk, vs[i]? = some v → (x :: xs)[i]? = some (bestD x xs) → (∀ b o, s.heap.get? b = some o → h'.get? b = some o) → Q v { s with heap := h', toks := tk }) :
    wpAny (model prog w) A (call (.builtin "min") [.ref l]) Q E s := by
  have hn : vs.size = xs.length + 1 := by
    have := readsAll_len hr
    rw [List.length_map] at this
    exact this
  refine call_min_walkH (iter_tupleW (A := A.in1) hh hl fun s₂ e W st hfp hw hk => ?_)
  refine ⟨_, _, _, _, _, _, _, s.heap, _, rfl, W, st, hfp, by omega, hw, hk, cmpIn_lt (A := A.in1) hr ha (by show A.units + 1 + _ < _; exact hu), fun v s' hP m => ?_⟩
  obtain ⟨h', tk, rfl, hk'⟩ := moved_old e rfl m
  have e1 : vs.size - 1 = xs.length := by omega
  have e0 : (fun i j => dataLt (((x :: xs).map pyE).getD i .none) (((x :: xs).map pyE).getD j .none)) = fun i j => dataLt (pyE ((x :: xs).getD i .non)) (pyE ((x :: xs).getD j .non)) := by
    funext i j
    rw [getD_pyE, getD_pyE]
  obtain ⟨e3, e2⟩ := argBest_fold (fun a b => dataLt (pyE a) (pyE b)) D.non x xs xs.length (Nat.le_refl _)
  rw [List.take_length] at e2
  rw [e1, e0] at hP
  refine h _ v h' tk hP ?_ hk'
  have hlt : argBest (fun i j => dataLt (pyE ((x :: xs).getD i .non)) (pyE ((x :: xs).getD j .non))) xs.length < (x :: xs).length := by
    rw [List.length_cons]; omega
  rw [List.getElem?_eq_getElem hlt]
  refine congrArg some ?_
  rw [List.getD_eq_getElem?_getD, List.getElem?_eq_getElem hlt] at e2
  exact e2
open PySem.W in
theorem max_tuple_ix {prog : Program} {w : World} {A : Around} {E : Value → Shared → Prop} {s : Shared} {l : Addr} {vs : Array Value} {x : D} {xs : List D} {as : List Addr} {Q : Value → Shared → Prop} (hh : A.handled = none) (hl : s.heap.IsTuple l vs) (hr : ReadsAll s.heap vs.toList ((x :: xs).map pyE) as) (ha : AlikeAll ((x :: xs).map pyE)) (hu : A.units + 1 + PyData.depthAll ((x :: xs).map pyE) < cLine)
    (h : ∀ (i : Nat) v h' tk, vs[i]? = some v → (x :: xs)[i]? = some (bestX x xs) → (∀ b o, s.heap.get? b = some o → h'.get? b = some o) → Q v { s with heap := h', toks := tk }) :
    wpAny (model prog w) A (call (.builtin "max") [.ref l]) Q E s := by
  have hn : vs.size = xs.length + 1 := by
    have := readsAll_len hr
    rw [List.length_map] at this
    exact this
  refine call_max_walkH (iter_tupleW (A := A.in1) hh hl fun s₂ e W st hfp hw hk => ?_)
  refine ⟨_, _, _, _, _, _, _, s.heap, _, rfl, W, st, hfp, by omega, hw, hk, cmpIn_gt (A := A.in1) hr ha (by show A.units + 1 + _ < _; exact hu), fun v s' hP m => ?_⟩
  obtain ⟨h', tk, rfl, hk'⟩ := moved_old e rfl m
  have e1 : vs.size - 1 = xs.length := by omega
  have e0 : (fun i j => dataLt (((x :: xs).map pyE).getD j .none) (((x :: xs).map pyE).getD i .none)) = fun i j => dataLt (pyE ((x :: xs).getD j .non)) (pyE ((x :: xs).getD i .non)) := by
    funext i j
    rw [getD_pyE, getD_pyE]
  obtain ⟨e3, e2⟩ := argBest_fold (fun a b => dataLt (pyE b) (pyE a)) D.non x xs xs.length (Nat.le_refl _)
  rw [List.take_length] at e2
  rw [e1, e0] at hP
  refine h _ v h' tk hP ?_ hk'
  have hlt : argBest (fun i j => dataLt (pyE ((x :: xs).getD j .non)) (pyE ((x :: xs).getD i .non))) xs.length < (x :: xs).length := by
    rw [List.length_cons]; omega
  rw [List.getElem?_eq_getElem hlt]
  refine congrArg some ?_
  rw [List.getD_eq_getElem?_getD, List.getElem?_eq_getElem hlt] at e2
  exact e2
section
variable {X : Cx} {g : Gm}
theorem callD_maxX (hc : X.calm = true) (hu : X.A.units + 65 < cLine) : CallD X g (.builtin "max") maxX := by
  intro pins s σ H τ S xs us ds Q I r A sh h
  unfold maxX at h
  split at h
  · rename_i ys
    · cases ys with
      | nil => exact h.elim
      | cons x ys =>
        unfold maxLD at h
        obtain ⟨ok, h⟩ := h.if_
        unfold minOk at ok
        rw [Bool.and_eq_true_iff, Bool.and_eq_true_iff] at ok
        obtain ⟨o1, o2, o3⟩ := ok
        have o3 := of_decide_eq_true o3
        cases sh with
        | cons sx sn =>
          cases sn
          obtain ⟨a, vs, e, ha, rl⟩ := sx.tup A.le
          subst e
          rw [Vals.ref1 r]
          obtain ⟨its, rv, pl, hz⟩ := I.tuple ha
          have len : vs.length = (x :: ys).length := rl.length
          have zip1 : (vs.zip (x :: ys)).map (·.1) = vs := List.map_fst_zip (by omega)
          have zip2 : (vs.zip (x :: ys)).map (·.2) = x :: ys := List.map_snd_zip (by omega)
          have mem2 : ∀ q ∈ vs.zip (x :: ys), q.2 ∈ x :: ys := fun q hq => by
            have : q.2 ∈ (vs.zip (x :: ys)).map (·.2) := List.mem_map.mpr ⟨q, hq, rfl⟩
            rw [zip2] at this
            exact this
          have EA := each_vals rv len
          have rd : ∀ (u : Value) (q : V × D), q ∈ vs.zip (x :: ys) → RelV q.1 u → ∃ as, Reads s.heap u (pyE q.2) as := fun u q hq r => by
            have h1 := List.all_eq_true.mp o1 q.2 (mem2 q hq)
            rw [Bool.and_eq_true_iff] at h1
            obtain ⟨p, hp⟩ := Option.isSome_iff_exists.mp h1.1
            rw [pyE_some hp]
            exact Dp.reads I p q.1 u (Dp.up A.le (Rep.dp (repl_zip rl q hq) hp)) r
          obtain ⟨as, hra⟩ := PySem.W.each_readsAll (fun b : V × D => pyE b.2) (each_imp2 rd EA)
          have em : (vs.zip (x :: ys)).map (fun b : V × D => pyE b.2) = (x :: ys).map pyE := by
            conv => rhs; rw [← zip2, List.map_map]
            rfl
          rw [em] at hra
          refine max_tuple_ix (vs := its.toArray) (x := x) (xs := ys) (I.ok.hd hc) pl hra ⟨fun p hp q hq => ?_, fun p hp => ?_⟩ (by omega) fun i v h' tk hv hb k => ?_
          · obtain ⟨b, hb, rfl⟩ := List.mem_map.mp hp
            obtain ⟨c, hc, rfl⟩ := List.mem_map.mp hq
            exact List.all_eq_true.mp (List.all_eq_true.mp o2 b hb) c hc
          · obtain ⟨b, hb, rfl⟩ := List.mem_map.mp hp
            have h1 := List.all_eq_true.mp o1 b hb
            rw [Bool.and_eq_true_iff] at h1
            intro z
            rw [z] at h1
            exact absurd h1.2 (by decide)
          · obtain ⟨w, hw, rw_⟩ := rl.get hb
            have hv2 : its[i]? = some v := by simpa using hv
            obtain ⟨u, hu2, ru⟩ := Vals.get rv hw
            rw [hv2] at hu2
            cases hu2
            exact ⟨_, H, I.kept k, ru, h.here A rw_⟩
  · exact callD_max hc pins s σ H τ S xs us _ Q I r A sh h
end
theorem v_maxX_l {ds : List D} : maxX [.lst ds] = maxD [.lst ds] := (rfl)
end DL
set_option maxHeartbeats 1000000
namespace DL
open PySem PySem.Spec PyProof.Rows L2
end DL
set_option maxHeartbeats 1000000
namespace DL
open PySem PySem.Spec PyProof.Rows L2
def RtD (d : D) (m : DS → SRes) : Prop := ∀ τ, m τ = .rt (.dat d) τ
inductive HdsM (X : Cx) (g : Gm) (k : Nat → Bool) : List ExceptHandler → List (Value × D) → Prop
  | nil : HdsM X g k [] []
  | cons {x : Str} {c : Value} {d : D} {m : DS → SRes} {b₀ : Stmt} {suite : List Stmt} {np pos' : Pos} {hds : List ExceptHandler} {l : List (Value × D)} (hc : Names X x c)
      (hsu : ∀ (a : Addr) (oe : Obj) (pn : List (Addr × Obj)), DSs (X.suite a ((a, oe) :: pn)) g WF k (b₀ :: suite) m) (hd : RtD d m) (r : HdsM X g k hds l) :
      HdsM X g k (.ExceptHandler (some (.Name x np)) none (b₀ :: suite) pos' :: hds) ((c, d) :: l)
def tsM (X : Cx) (g : Gm) (k : Nat → Bool) (p : Value × D) : Value × (Addr → Value → Option Addr → TS) := (p.1, fun _ _ _ => LS g X.K WF k fun τ => .rt (.dat p.2) τ)
theorem HdsM.to {X : Cx} {g : Gm} {k : Nat → Bool} {hds : List ExceptHandler} {l : List (Value × D)} (h : HdsM X g k hds l) : L2N.HdsOk X hds (l.map (tsM X g k)) := by
  induction h with
  | nil => exact .nil
  | @cons x c d m b₀ suite np pos' hds l hc hsu hd r ih =>
    refine .cons hc (fun a oe cls dd pn hz hf => ?_) ih
    have h := (hsu a oe pn).ps
    rw [show m = fun τ => SRes.rt (.dat d) τ from funext hd] at h
    exact h
end DL
set_option maxHeartbeats 1000000
namespace HT
open PySem PySem.Calls PyProof PyProof.Rows
end HT
namespace DL
open PySem PySem.Spec PyProof PyProof.Rows L2 HT
end DL
set_option maxHeartbeats 1000000
namespace DL
open PySem PySem.Spec PyProof.Rows L2
open PySem.W in
theorem max_list_ix {prog : Program} {w : World} {A : Around} {E : Value → Shared → Prop} {s : Shared} {l : Addr} {vs : Array Value} {x : D} {xs : List D} {as : List Addr} {Q : Value → Shared → Prop} (hh : A.handled = none) (hl : s.heap.IsList l vs) (hr : ReadsAll s.heap vs.toList ((x :: xs).map pyE) as) (ha : AlikeAll ((x :: xs).map pyE)) (hu : A.units + 1 + PyData.depthAll ((x :: xs).map pyE) < cLine)
    (h : ∀ (i : Nat) v h' tk, vs[i]? = some v → (x :: xs)[i]? = some (bestX x xs) → (∀ b o, s.heap.get? b = some o → h'.get? b = some o) → Q v { s with heap := h', toks := tk }) :
    wpAny (model prog w) A (call (.builtin "max") [.ref l]) Q E s := by
  have hn : vs.size = xs.length + 1 := by
    have := readsAll_len hr
    rw [List.length_map] at this
    exact this
  refine call_max_walkH (iter_listW (A := A.in1) hh hl fun s₂ e W st hfp hw hk => ?_)
  refine ⟨_, _, _, _, _, _, _, s.heap, _, rfl, W, st, hfp, by omega, hw, hk, cmpIn_gt (A := A.in1) hr ha (by show A.units + 1 + _ < _; exact hu), fun v s' hP m => ?_⟩
  obtain ⟨h', tk, rfl, hk'⟩ := moved_old e rfl m
  have e1 : vs.size - 1 = xs.length := by omega
  have e0 : (fun i j => dataLt (((x :: xs).map pyE).getD j .none) (((x :: xs).map pyE).getD i .none)) = fun i j => dataLt (pyE ((x :: xs).getD j .non)) (pyE ((x :: xs).getD i .non)) := by
    funext i j
    rw [getD_pyE, getD_pyE]
  obtain ⟨e3, e2⟩ := argBest_fold (fun a b => dataLt (pyE b) (pyE a)) D.non x xs xs.length (Nat.le_refl _)
  rw [List.take_length] at e2
  rw [e1, e0] at hP
  refine h _ v h' tk hP ?_ hk'
  have hlt : argBest (fun i j => dataLt (pyE ((x :: xs).getD j .non)) (pyE ((x :: xs).getD i .non))) xs.length < (x :: xs).length := by
    rw [List.length_cons]; omega
  rw [List.getElem?_eq_getElem hlt]
  refine congrArg some ?_
  rw [List.getD_eq_getElem?_getD, List.getElem?_eq_getElem hlt] at e2
  exact e2
end DL
set_option maxHeartbeats 1000000
namespace DL
open PySem PySem.Spec PyProof.Rows L2
end DL
set_option maxHeartbeats 1000000
namespace DL
open PySem PySem.Spec PyProof PyProof.Rows L2
abbrev ET := List Int × Addr × V
def getV (kvs : List (D × D)) (k : List Int) : Option D := (kvs.find? fun p => decide (tupI p.1 = some k)).map (·.2)
theorem Shown.key {g : Gm} {K : PySem.W.Frag} {H S : Hp} {v : V} {d : D} {k : List Int} (x : Shown g K H S v d) (le : Same S H) (h : tupI d = some k) : ∃ b, v = .ref b ∧ SqT K H b (k.map V.int) := by
  unfold tupI at h
  split at h
  · obtain ⟨b, vs, rfl, hb, r⟩ := x.tup le
    have e := allInts_eq h
    subst e
    rw [r.ints] at hb
    exact ⟨b, rfl, hb⟩
  · cases h
end DL
set_option maxHeartbeats 1000000
namespace DL
open PySem PySem.Spec PyProof PyProof.Rows L2
end DL
set_option maxHeartbeats 1000000
namespace DL
open PySem PySem.Spec PyProof PyProof.Rows L2
def LamO (f : Addr) (ob : Obj) : HO := .ext fun h => h.get? f = some ob
theorem lamO_ok {P : Program} {w : World} {H : Hp} {h : Heap} {f : Addr} {ob : Obj} (e : h.get? f = some ob) : ObjOk P w H h f (LamO f ob) := ⟨e, ⟨ob, e⟩, fun _ _ z k => k _ z⟩
theorem codeO_nt {c : Addr} {q : Str} : NT (LamX.CodeO c q) := fun ps z => by unfold LamX.CodeO at z; cases z
def hLam (H : Hp) (P c f : Addr) (ps : Array Value) (q : Str) (ob : Obj) : Hp := upd (upd (upd H P (.tbl ps)) c (LamX.CodeO c q)) f (LamO f ob)
def sLam (S : Hp) (c f : Addr) (q : Str) (ob : Obj) : Hp := upd (upd S c (LamX.CodeO c q)) f (LamO f ob)
structure NewLam (H : Hp) (P c f : Addr) (ps ps' : Array Value) (q : Str) : Prop where
  tri : TriplesOk ps'.toList
  old : ∀ (pos : Pos) (cv : Value), codeAmong pos ps'.toList = some cv → codeAmong pos ps.toList = some cv ∨ cv = .ref c
  hit : H c = none ∨ ∃ pos, codeAmong pos ps.toList = some (.ref c)
  cP : c ≠ P
  fn : H f = none
  fc : f ≠ c
  fP : f ≠ P
section
variable {g : Gm} {K : PySem.W.Frag} {σ : L2.St} {τ : DS} {H S : Hp} {P c f : Addr} {ps ps' : Array Value} {q : Str} {ob : Obj}
theorem Abs.lam (A : Abs g K σ H τ S) (hm : (P, q) ∈ g.tabs) (hu : ∀ p ∈ g.tabs, p.1 = P → p.2 = q) (hP : H P = some (.tbl ps)) (n : NewLam H P c f ps ps' q) :
    Abs g K σ (hLam H P c f ps' q ob) τ (sLam S c f q ob) ∧ Ext σ τ H S σ τ (hLam H P c f ps' q ob) (sLam S c f q ob) := by
  obtain ⟨sP, ps0, hP0, t0, a0⟩ := A.tab _ hm
  rw [hP] at hP0; cases hP0
  have hc : (H c = none ∧ S c = none) ∨ (S c = some (LamX.CodeO c q) ∧ H c = some (LamX.CodeO c q)) := by
    rcases n.hit with z | ⟨pos, z⟩
    · exact .inl ⟨z, A.sn z⟩
    · obtain ⟨c0, e1, e2⟩ := a0 pos _ z
      cases e1
      exact .inr ⟨e2, A.le _ _ e2⟩
  have sm : Same S (upd S c (LamX.CodeO c q)) := fun b o e => by
    by_cases hb : b = c
    · subst hb
      rcases hc with ⟨_, z⟩ | ⟨z, _⟩
      · rw [z] at e; cases e
      · rw [z] at e; rw [upd_same]; exact e
    · rw [upd_ne hb]; exact e
  have ne : ∀ a o, H a = some o → NT o → S a = none → a ≠ P ∧ a ≠ c := fun a o e nt na => by
    refine ⟨fun z => ?_, fun z => ?_⟩
    · rw [z, hP] at e; exact nt ps (Option.some.inj e).symm
    · rcases hc with ⟨w, _⟩ | ⟨w, _⟩
      · rw [z, w] at e; cases e
      · rw [z, w] at na; cases na
  have at_ : ∀ a, a ≠ P → a ≠ c → upd (upd H P (.tbl ps')) c (LamX.CodeO c q) a = H a := fun a h1 h2 => by rw [upd_ne h2, upd_ne h1]
  have nf : upd (upd H P (.tbl ps')) c (LamX.CodeO c q) f = none := by rw [at_ f n.fP n.fc]; exact n.fn
  have A1 : Abs g K σ (upd (upd H P (.tbl ps')) c (LamX.CodeO c q)) τ (upd S c (LamX.CodeO c q)) := by
    refine ⟨fun b o e => ?_, A.len, fun i d e => ?_, fun i k e => ?_, A.inj, fun p hp => ?_⟩
    · by_cases hb : b = c
      · subst hb; rw [upd_same] at e ⊢; exact e
      · rw [upd_ne hb] at e ⊢
        rw [upd_ne (fun z => by rw [z, sP] at e; cases e)]
        exact A.le _ _ e
    · obtain ⟨v, e1, r⟩ := A.dat i d e
      exact ⟨v, e1, r.mono sm⟩
    · obtain ⟨a, o, e1, e2, na, r⟩ := A.own i k e
      obtain ⟨n1, n2⟩ := ne a o e2 r.nt na
      exact ⟨a, o, e1, by rw [at_ a n1 n2]; exact e2, by rw [upd_ne n2]; exact na, r.mono sm⟩
    · obtain ⟨sp, qs, hp1, t1, a1⟩ := A.tab p hp
      have pc : p.1 ≠ c := fun z => by
        rcases hc with ⟨w, _⟩ | ⟨w, _⟩
        · rw [z, w] at hp1; cases hp1
        · rw [z, w] at sp; cases sp
      by_cases hb : p.1 = P
      · have hq := hu p hp hb
        refine ⟨by rw [upd_ne pc]; exact sp, ps', by rw [upd_ne pc, hb, upd_same], n.tri, fun pos cv z => ?_⟩
        rcases n.old pos cv z with z | z
        · obtain ⟨c0, e1, e2⟩ := a0 pos cv z
          exact ⟨c0, e1, by rw [hq]; exact sm _ _ e2⟩
        · exact ⟨c, z, by rw [hq]; exact upd_same⟩
      · refine ⟨by rw [upd_ne pc]; exact sp, qs, by rw [at_ _ hb pc]; exact hp1, t1, fun pos cv z => ?_⟩
        obtain ⟨c0, e1, e2⟩ := a1 pos cv z
        exact ⟨c0, e1, sm _ _ e2⟩
  have E1 : Ext σ τ H S σ τ (upd (upd H P (.tbl ps')) c (LamX.CodeO c q)) (upd S c (LamX.CodeO c q)) := by
    refine ⟨sm, fun a o e nt na _ => ?_, fun _ h => .inl h, fun a e => ?_⟩
    · obtain ⟨n1, n2⟩ := ne a o e nt na
      exact ⟨by rw [at_ a n1 n2]; exact e, by rw [upd_ne n2]; exact na⟩
    · by_cases h2 : a = c
      · rw [h2, upd_same] at e; cases e
      · by_cases h1 : a = P
        · rw [upd_ne h2, h1, upd_same] at e; cases e
        · rw [at_ a h1 h2] at e; exact e
  exact ⟨A1.new nf _, E1.trans (A1.ext_new nf _)⟩
end
section
variable {X : Cx} {pins : List (Addr × Obj)} {σ : L2.St} {H : Hp} {s : Shared}
theorem lam_made {c P : Addr} {ps : Array Value} {q : Str} {params : Arguments} {body : Expr} {scope : Scope} {pos : Pos} {E : Value → Shared → Prop} {Q : Value → Shared → Prop} (I : Inv X pins σ H s) (TB : LamX.TabB X.base X.mg c P) (hcode : X.env.code = .ref c)
    (hP : H P = some (.tbl ps)) (tr : TriplesOk ps.toList) (hq : q = X.env.qual ++ "<lambda>") (known : ∀ (p : Pos) (cv : Value), codeAmong p ps.toList = some cv → ∃ c, cv = .ref c ∧ H c = some (LamX.CodeO c q))
    (hdef : defaultsOf params X.env = ([], [])) (hfree : ∀ y ∈ scope.names, y.2 = .free → ∃ c, X.env.cells.lookup y.1 = some c)
    (h : ∀ (f c' : Addr) (pm ctv : Value) (ps' : Array Value) (s' : Shared), NewLam H P c' f ps ps' q →
      Inv X pins σ (hLam H P c' f ps' q (PySem.W.kla_obj "<lambda>" q params body scope (cloFrom X.env.cells scope.names []) pm c' ctv)) s' → Q (.ref f) s') :
    wpAny (model X.prog X.w) X.A (eval (.Lambda params body scope pos) X.env) Q E s := by
  subst hq
  have hP2 : s.heap.get? P = some { cls := .none, data := .fields ps } := I.hok P _ hP
  refine PySem.W.kla_eval hdef ?_
  cases hc : codeAmong pos ps.toList with
  | none =>
    refine PySem.W.kla_makeFunction (mg := X.mg) (c := c) (P := P) (ps := ps) (closure_ok hfree) I.ok.glob (I.mod.glob.keeps I.bk) hcode (TB.code.keeps I.bk) hP2 tr hc TB.gP (TB.bm.keeps I.bk) fun c' ctv h' tk hx hge hlt ⟨c2, oc, vs, t, e2, hoc, hd, hv⟩ htb => ?_
    cases e2
    have nC : H c' = none := I.hok.fresh hge
    have cP : c' ≠ P := fun z => by rw [z, hP] at nC; cases nC
    have J := LamX.inv_table (t' := tk) (q := X.env.qual ++ "<lambda>") (more := #[rawInt pos.line, rawInt pos.col, .ref c']) I hP (fun b o hb e => hx b o hb e) htb hge ⟨oc, vs, t, hoc, hd, hv⟩
    have nF := J.hok.fresh (Nat.le_refl _)
    have fc : h'.objs.size ≠ c' := Nat.ne_of_gt hlt
    have fP : h'.objs.size ≠ P := Nat.ne_of_gt (Nat.lt_of_lt_of_le (Heap.lt_size hP2) (Nat.le_trans hge (Nat.le_of_lt hlt)))
    have eL : (ps ++ #[rawInt pos.line, rawInt pos.col, .ref c']).toList = ps.toList ++ [rawInt pos.line, rawInt pos.col, .ref c'] := by simp
    refine h h'.objs.size c' ((X.mg "__name__").getD .none) ctv _ _ ⟨by rw [eL]; exact PySem.TriplesOk_snoc _ _ _ _ tr, fun p cv z => ?_, .inl nC, cP, ?_, fc, fP⟩
      (J.laid (t' := tk) (fun b u e => Heap.get?_push_of_some _ e) (Nat.le_refl _) (lamO_ok (Heap.get?_push_size _ rfl)))
    · rw [eL] at z
      exact LamX.among_app _ tr z
    · rw [upd_ne fc, upd_ne fP] at nF
      exact nF
  | some cv =>
    obtain ⟨c', rfl, hco⟩ := known pos cv hc
    refine PySem.W.kla_makeFunctionHit (mg := X.mg) (c := c) (P := P) (ps := ps) (closure_ok hfree) I.ok.glob (I.mod.glob.keeps I.bk) hcode (TB.code.keeps I.bk) hP2 tr hc (TB.bm.keeps I.bk) fun ctv h' tk hx hsz => ?_
    have J : Inv X pins σ H { s with heap := h', toks := tk } := I.kept hx
    have cP : c' ≠ P := fun z => by rw [z, hP] at hco; exact absurd (Option.some.inj hco).symm (codeO_nt ps)
    have nF := J.hok.fresh (Nat.le_refl _)
    have same : upd (upd H P (.tbl ps)) c' (LamX.CodeO c' (X.env.qual ++ "<lambda>")) = H := by
      funext b
      by_cases h1 : b = c'
      · rw [h1, upd_same, hco]
      · rw [upd_ne h1]
        by_cases h2 : b = P
        · rw [h2, upd_same, hP]
        · rw [upd_ne h2]
    refine h h'.objs.size c' ((X.mg "__name__").getD .none) ctv ps _ ⟨tr, fun p cv z => .inl z, .inr ⟨pos, hc⟩, cP, nF, Ne.symm (ne_of_none hco nF), Ne.symm (ne_of_none hP nF)⟩ ?_
    unfold hLam
    rw [same]
    exact J.laid (t' := tk) (fun b u e => Heap.get?_push_of_some _ e) (Nat.le_refl _) (lamO_ok (Heap.get?_push_size _ rfl))
end
end DL
set_option maxHeartbeats 1000000
namespace DL
open PySem PySem.Spec PyProof PyProof.Rows L2
structure LamP (N : List Str) (i : Nat) (x : Str) (sc scope : Scope) : Prop where
  kind : scope.kind = .function
  co : scope.isCoroutine = false
  gen : scope.isGenerator = false
  nd : N.Nodup
  at_ : N[i]? = some x
  par : scope.names.lookup x = some .local
  own : ∀ y ∈ scope.names, y.2 = .local → y.1 = x
  nocell : ∀ y ∈ scope.names, y.2 ≠ .cell
  free : ∀ y ∈ scope.names, y.2 = .free → sc.names.lookup y.1 = some .cell ∨ sc.names.lookup y.1 = some .free
def lamPB (N : List Str) (i : Nat) (x : Str) (sc scope : Scope) : Bool :=
  (decide (scope.kind = .function) && !scope.isCoroutine && !scope.isGenerator && decide N.Nodup && decide (N[i]? = some x) && decide (scope.names.lookup x = some .local)) &&
  scope.names.all fun y => (!decide (y.2 = .local) || decide (y.1 = x)) && !decide (y.2 = .cell) && (!decide (y.2 = .free) || decide (sc.names.lookup y.1 = some .cell) || decide (sc.names.lookup y.1 = some .free))
theorem lamP_by {N : List Str} {i : Nat} {x : Str} {sc scope : Scope} (h : lamPB N i x sc scope = true) : LamP N i x sc scope := by
  unfold lamPB at h
  simp only [Bool.and_eq_true, Bool.or_eq_true, Bool.not_eq_true', decide_eq_true_eq, decide_eq_false_iff_not, List.all_eq_true] at h
  obtain ⟨⟨⟨⟨⟨⟨h1, h2⟩, h3⟩, h4⟩, h5⟩, h6⟩, h7⟩ := h
  refine ⟨h1, h2, h3, h4, h5, h6, fun y hy e => (h7 y hy).1.1.resolve_left fun z => z e, fun y hy => (h7 y hy).1.2, fun y hy e => ?_⟩
  rcases (h7 y hy).2 with (z | z) | z
  · exact absurd e z
  · exact .inl z
  · exact .inr z
theorem LamP.cells {X : Cx} {i : Nat} {x : Str} {scope : Scope} (L : LamP X.N i x X.env.scope scope) (ok : X.Ok) : ∀ y ∈ scope.names, y.2 = .free → ∃ c, X.env.cells.lookup y.1 = some c := fun y hy e => by
  rcases L.free y hy e with k | k
  · exact ok.has _ (.inl k)
  · exact ok.has _ (.inr k)
section
variable {X : Cx} {pins : List (Addr × Obj)} {σ : L2.St} {H : Hp} {s : Shared}
theorem inv_lam {A : Around} {E : XK} {scope : Scope} {f c' : Addr} {i : Nat} {x : Str} {v : V} {u : Value} {h₁ : Heap} {tk : Nat} (I : Inv X pins σ H s) (L : LamP X.N i x X.env.scope scope) (e0 : Env0 X.prog X.w X.K X.mg X.base A X.stack s H) (hd : A.handled = none)
    (rv : RelV v u) (hns : h₁.Ns s.heap.objs.size fun y => [(x, u)].reverse.lookup y) (kp : ∀ b o, s.heap.get? b = some o → h₁.get? b = some o) :
    Inv (LamX.lamCx X A X.stack s H E scope f c') [] (σ.set i (some v)) H { s with heap := h₁, toks := tk } := by
  have nx : ∀ b : Addr, b ∉ ([] : List Addr) := fun b z => by cases z
  have up : ∀ {y c}, (cloFrom X.env.cells scope.names []).lookup y = some c → X.env.cells.lookup y = some c := fun {y c} e => NdefX.clo_cm (L.cells I.ok) e
  have cel : ∀ {c : Addr} {z : Option Value}, s.heap.IsCell c z → h₁.IsCell c z := fun {c z} ⟨o, ho, hz⟩ => ⟨o, kp _ _ ho, hz⟩
  have cls : ∀ {y}, scope.names.lookup y = some .free → ∃ c, (cloFrom X.env.cells scope.names []).lookup y = some c := fun {y} hl => mem_lookup (cloFrom_has (cells := X.env.cells) (acc := []) (PySem.mem_of_lookup hl))
  have hlt : i < σ.length := by rw [I.len]; exact (List.getElem?_eq_some_iff.mp L.at_).1
  refine ⟨⟨e0.mod, L.kind, rfl, rfl, Nat.le_refl _, fun y z c e1 e2 => I.ok.inj y z c (up e1) (up e2), fun y hy => ?_, fun y c z _ => (show False from Bool.noConfusion (show false = true from z)).elim, fun _ => hd, Around.frames_deeper e0.frames,
      .inr ⟨rfl, rfl⟩, fun b z => (nx b z).elim, e0.bs, e0.bsz, fun b _ _ => nx b, fun b z => (nx b z).elim, e0.funs, e0.frf⟩,
    rfl, e0.bare, Un.kept kp, ⟨_, hns, fun j y a e1 e2 e3 => ?_⟩, fun y c e => ?_, e0.hok.fresh (Nat.le_refl _), fun y c e => I.freeC y c (up e), fun p hp => (by cases hp), e0.hok.kept kp, by rw [List.length_set]; exact I.len⟩
  · rcases (show scope.names.lookup y = some .cell ∨ scope.names.lookup y = some .free from hy) with z | z
    · exact absurd rfl (L.nocell _ (PySem.mem_of_lookup z))
    · exact cls z
  · have e1 : X.N[j]? = some y := e1
    rcases (show Vis scope y from e3) with z | z | z
    · have hy : y = x := L.own _ (PySem.mem_of_lookup z) rfl
      have hj : j = i := L2.nodup_ix L.nd e1 (by rw [hy]; exact L.at_)
      subst hj hy
      rw [List.getElem?_set_self hlt] at e2
      cases e2
      exact ⟨u, rv, .inl ⟨z, by show [(y, u)].reverse.lookup y = some u; simp [List.lookup]⟩⟩
    · exact absurd rfl (L.nocell _ (PySem.mem_of_lookup z))
    · have hj : i ≠ j := fun q => by
        subst q
        rw [L.at_] at e1; cases e1
        rw [L.par] at z; cases z
      rw [List.getElem?_set_ne hj] at e2
      have cap := L.free _ (PySem.mem_of_lookup z) rfl
      obtain ⟨m, hn, hl⟩ := I.loc
      obtain ⟨w', r, q⟩ := hl j y a e1 e2 (cap.elim (fun k => .inr (.inl k)) fun k => .inr (.inr k))
      obtain ⟨c2, h2⟩ := cls z
      refine ⟨w', r, .inr ⟨.inr z, c2, h2, ?_⟩⟩
      rcases q with ⟨k, _⟩ | ⟨_, c3, e', q⟩
      · have k : X.env.scope.names.lookup y = some .local := k
        rcases cap with k2 | k2 <;> (rw [show X.env.scope.names.lookup y = _ from k2] at k; cases k)
      · rw [up h2] at e'
        cases e'
        exact cel q
  · obtain ⟨a, z⟩ := I.cell y c (up e)
    exact ⟨a, cel z⟩
theorem noX {P : Program} {w : World} {outer : List Env} {H : Hp} {s s' : Shared} {e : Value} (h : L2.CX P w outer H s (fun _ _ _ => False) e s') : False := by
  obtain ⟨_, _, _, _, _, _, _, _, _, _, _, _, _, _, _, _, z⟩ := h
theorem lam_call {f c' : Addr} {q : Str} {params : Arguments} {body : Expr} {scope : Scope} {pm ctv : Value} {i k : Nat} {x : Str} {v : V} {u : Value} {tb : TE} {Q : VK} {E' : Value → Shared → Prop} (I : Inv X pins σ H s) (L : LamP X.N i x X.env.scope scope) (hq : q = X.env.qual ++ "<lambda>")
    (hf : H f = some (LamO f (PySem.W.kla_obj "<lambda>" q params body scope (cloFrom X.env.cells scope.names []) pm c' ctv))) (hc : H c' = some (LamX.CodeO c' q))
    (hbind : bindArgs (PySem.W.kla_fn "<lambda>" q params body scope (cloFrom X.env.cells scope.names []) pm (.ref c') ctv) ⟨[u], []⟩ = pure [(x, u)]) (hr : Room (k + 3) X.A) (rv : RelV v u)
    (hbody : ∀ (A : Around) (s : Shared) (H : Hp), Room k (A.deeper (LamX.lamEnv X scope s.heap.objs.size f c')) → PE (LamX.lamCx X A X.stack s H (fun _ _ _ => False) scope f c') body tb) (ht : tb (σ.set i (some v)) H Q) :
    wpAny (model X.prog X.w) X.A.in1.in1 (call (.ref f) [u]) (EP X pins σ Q) E' s := by
  subst hq
  have ho : s.heap.get? f = some _ := (I.hok f _ hf).1
  obtain ⟨⟨oc, vs, t, hoc, hdc, hvc⟩, _, _⟩ := I.hok c' _ hc
  have e0 : Env0 X.prog X.w X.K X.mg X.base X.A.in1.in1 X.stack s H := I.env0.in1.in1
  have hr1 : Room (k + 1) X.A.in1.in1 := hr.in1.in1
  have rc : codeAny (model X.prog X.w) X.A.in1.in1 (.call (.ref f) ⟨[u], []⟩) (CR (L2.CX X.prog X.w) X.stack X.prog X.w H s Q fun _ _ _ => False) s := by
    refine PySem.W.kla_callFunE hr1.depth ho rfl L.co L.gen rfl ⟨c', oc, vs, t, rfl, hoc, hdc, hvc⟩ ?_
    rw [hbind]
    refine wpAny_pure (wpAny_newFunctionEnv L.nocell (fun y hy => ?_) (fun h₁ hns hsb => ⟨I.nolimit.fresh _ hsb, ?_⟩) L.kind)
    · cases List.mem_singleton.mp hy
      exact L.par
    · have kp : ∀ b o, s.heap.get? b = some o → h₁.get? b = some o := fun b o e => hsb.extBut b o (Nat.ne_of_lt (Heap.lt_size e)) (Heap.get?_push_of_some _ e)
      have J : Inv (LamX.lamCx X X.A.in1.in1 X.stack s H (fun _ _ _ => False) scope f c') [] (σ.set i (some v)) H { s with heap := h₁, toks := s.toks + [(x, u)].length } := inv_lam I L e0 hr1.hd rv hns kp
      show codeAny _ _ (.expr body (LamX.lamEnv X scope s.heap.objs.size f c')) _ _
      refine PySem.W.kla_codeExpr (wpAny_mono ((hbody _ s H (hr1.deeper _)).run [] _ _ H Q J ht) (fun a s' hq => ?_) fun e s' hq => hq)
      obtain ⟨w', H', J', ra, q⟩ := hq
      exact ⟨w', H', J'.os, J'.bare, J'.base, J'.hok, ra, q⟩
  refine wpAny_call (codeAny_mono rc fun r s' hq => ?_)
  cases r with
  | error e => exact (noX hq).elim
  | ok fl =>
    cases fl with
    | ret u => exact I.after hq
    | next => exact False.elim hq
    | brk => exact False.elim hq
    | cont => exact False.elim hq
end
end DL
set_option maxHeartbeats 1000000
namespace DL
open PySem PySem.Spec PyProof PyProof.Rows L2
open PySem.W (EachIs AllAlike Sortable dataLe)
theorem free_at (h : Heap) (a : Addr) : (h.update a fun o => { o with data := .freed }).get? a = none := by
  cases q : (h.update a fun o => { o with data := .freed }).get? a with
  | none => rfl
  | some o =>
    obtain ⟨e, n⟩ := Heap.get?_some_iff.mp q
    have e' : (h.objs.modify a fun o => { o with data := .freed })[a]? = some o := e
    rw [Array.getElem?_modify, if_pos rfl] at e'
    cases z : h.objs[a]? with
    | none => rw [z] at e'; cases e'
    | some o' =>
      rw [z] at e'
      cases e'
      exact absurd n (by simp [Obj.isFreed])
theorem each_row {β : Type} : ∀ {vs : List V} {us : List Value} {ds : List β}, Vals vs us → vs.length = ds.length → EachIs (fun (u : Value) (b : V × β) => RelV b.1 u) us (vs.zip ds)
  | _, _, [], .nil, _ => .nil
  | _, _, _ :: _, .nil, h => by simp at h
  | _, _, [], .cons _ _, h => by simp at h
  | _, _, _ :: _, .cons r t, h => .cons r (each_row t (by simpa using h))
theorem row_each {β : Type} : ∀ {us : List Value} {zs : List (V × β)}, EachIs (fun (u : Value) (b : V × β) => RelV b.1 u) us zs → Vals (zs.map (·.1)) us
  | _, _, .nil => .nil
  | _, _, .cons r t => .cons r (row_each t)
def hSort (H : Hp) (a kS : Addr) (vs : List V) : Hp := fun b => if b = kS then none else upd H a (.lst vs) b
theorem hSort_kS {H : Hp} {a kS : Addr} {vs : List V} : hSort H a kS vs kS = none := if_pos rfl
theorem hSort_a {H : Hp} {a kS : Addr} {vs : List V} (n : a ≠ kS) : hSort H a kS vs a = some (.lst vs) := by
  unfold hSort
  rw [if_neg n, upd_same]
theorem hSort_ne {H : Hp} {a kS b : Addr} {vs : List V} (n : b ≠ kS) (m : b ≠ a) : hSort H a kS vs b = H b := by
  unfold hSort
  rw [if_neg n, upd_ne m]
section
variable {X : Cx} {pins : List (Addr × Obj)} {σ : L2.St} {H : Hp} {s : Shared}
theorem inv_sorted {a kS : Addr} {ks out : List V} {us : List Value} {h' : Heap} {c tk : Nat} (I : Inv X pins σ H s) (fa : FpOk X pins H a) (hk : H kS = some (.lst ks)) (ne : a ≠ kS) (up : X.s_0.heap.objs.size ≤ kS)
    (keep : ∀ b o, b ≠ a → b ≠ kS → s.heap.get? b = some o → h'.get? b = some o) (hat : h'.get? a = some (seqObj "list" us.toArray c)) (rv : Vals out us) (few : out.length ≤ sizeLine) :
    Inv X pins σ (hSort H a kS out) { s with heap := h', toks := tk } := by
  have no : ∀ b u, H b = some u → (∀ l, u ≠ .lst l) → b ≠ kS ∧ b ≠ a := fun b u e n => ⟨fun z => by rw [z, hk] at e; exact n ks (Option.some.inj e).symm, fun z => (by rw [z, fa.1] at e; cases e)⟩
  have nn : ∀ b, H b = none → b ≠ kS := fun b e z => by rw [z, hk] at e; cases e
  refine I.step (g' := s.gens) (d' := s.drawn) (ch := [kS, a]) (fun b hb => ?_) (fun b o _ _ hc e n => keep b o (fun z => hc (by simp [z])) (nn b n) e) (fun b o _ _ hc e n => ⟨o.slots, keep b o (fun z => hc (by simp [z])) (nn b n) e⟩)
    (fun b o hc e n => by rw [hSort_ne (nn b n) (fun z => hc (by simp [z]))]; exact n) (fun b o hc e => ⟨o, keep b o (fun z => hc (by simp [z])) (fun z => hc (by simp [z])) e⟩) (fun b xs e => ?_) (fun b o u e => ?_) (fun b ps e => ⟨#[], ?_⟩) (fun m hm => ?_) (fun b u e => ?_) I.bare
  · rcases (show b = kS ∨ b = a by simpa using hb) with z | z
    · subst z
      exact ⟨.inr up, fun z => nn _ I.free z.symm, fun x k e => nn _ (I.freeC x k e), fun p hp => nn _ (I.pin p hp).2.1⟩
    · subst z
      exact ⟨fa.2.2.2.1, fa.2.1, fa.2.2.2.2.1, fa.2.2.2.2.2⟩
  · obtain ⟨n1, n2⟩ := no b _ e fun l z => by cases z
    rw [hSort_ne n1 n2]; exact e
  · obtain ⟨n1, n2⟩ := no b _ e fun l z => by cases z
    rw [hSort_ne n1 n2]; exact e
  · obtain ⟨n1, n2⟩ := no b _ e fun l z => by cases z
    rw [hSort_ne n1 n2, e]; simp
  · obtain ⟨o, es, ep, ho, r⟩ := hm
    exact ⟨o, es, ep, keep _ o (Ne.symm fa.2.1) (nn _ I.free) ho, r⟩
  · by_cases hb : b = a
    · subst hb
      rw [hSort_a ne] at e
      cases e
      exact ⟨few, us, c, rv, hat⟩
    · by_cases hb2 : b = kS
      · subst hb2; rw [hSort_kS] at e; cases e
      · rw [hSort_ne hb2 hb] at e
        refine (I.hok b u e).stay (fun d v hd q => ?_) (fun d q => ?_) fun d xs q => ?_
        · rcases hd with z | z
          · rw [z] at q ⊢; exact keep b v hb hb2 q
          · obtain ⟨n1, n2⟩ := no d _ z fun l w => by cases w
            exact keep d v n2 n1 q
        · obtain ⟨n1, n2⟩ := no d _ q fun l w => by cases w
          rw [hSort_ne n1 n2]; exact q
        · obtain ⟨n1, n2⟩ := no d _ q fun l w => by cases w
          rw [hSort_ne n1 n2]; exact q
theorem vals_at : ∀ {vs : List V} {us : List Value}, Vals vs us → ∀ {i : Nat} {u : Value}, us[i]? = some u → ∃ v, vs[i]? = some v ∧ RelV v u
  | _, _, .nil, i, u, e => by simp at e
  | _, _, .cons r _, 0, u, e => by simp at e; subst e; exact ⟨_, rfl, r⟩
  | _, _, .cons _ t, i + 1, u, e => by
    obtain ⟨v, h1, h2⟩ := vals_at t (i := i) (u := u) (by simpa using e)
    exact ⟨v, by simpa using h1, h2⟩
theorem vals_snoc : ∀ {vs : List V} {us : List Value} {v : V} {u : Value}, Vals vs us → RelV v u → Vals (vs ++ [v]) (us ++ [u])
  | _, _, _, _, .nil, r => .cons r .nil
  | _, _, _, _, .cons r t, q => .cons r (vals_snoc t q)
structure KeysAt (X : Cx) (pins : List (Addr × Obj)) (σ : L2.St) (H : Hp) (ks : List V) (kz : List PyData) : Prop where
  rd : ∀ (s : Shared) (us : List Value), Inv X pins σ H s → Vals ks us → EachIs (fun v k => ∃ as, Reads s.heap v k as) us kz
  al : AllAlike kz
  so : Sortable kz
  rm : ∀ d ∈ kz, X.A.in1.in1.units + d.depth < cLine
theorem sort_keyed {l f : Addr} {vs : List V} {Q : VK} (I : Inv X pins σ H s) (hl : SqL X.K H l vs) (few : vs.length ≤ sizeLine) (J : Addr → Nat → Hp → List V → Prop)
    (start : ∀ kS, H kS = none → J kS 0 (upd H kS (.lst [])) [])
    (know : ∀ kS i H ks, J kS i H ks → H kS = some (.lst ks))
    (turn : ∀ (pins' : List (Addr × Obj)) (kS : Addr) (i : Nat) (v : V) (u : Value) (s : Shared) (H : Hp) (ks : List V), vs[i]? = some v → RelV v u → Inv X pins' σ H s → J kS i H ks →
      wpAny (model X.prog X.w) X.A.in1.in1 (call (.ref f) [u]) (EP X pins' σ fun k H' => H' kS = some (.lst ks) ∧ J kS (i + 1) (upd H' kS (.lst (ks ++ [k]))) (ks ++ [k])) (fun _ _ => False) s)
    (fin : ∀ (a kS : Addr) (H' : Hp) (ks : List V), a ≠ kS → H a = none → H' a = none → J kS vs.length H' ks → ∃ kz, KeysAt X pins σ H' ks kz ∧ kz.length = vs.length ∧ Q (.ref a) (hSort H' a kS (((vs.zip kz).mergeSort (dataLe false (·.2))).map (·.1)))) :
    wpAny (model X.prog X.w) X.A (call (.builtin "sorted") [.ref l] [(Str.ofString "key", .ref f)]) (EP X pins σ Q) X.xe s := by
  obtain ⟨its, rv, hp, hz⟩ := I.list hl
  have hlen := rv.length
  have hZ : its.length ≤ sizeLine := by rw [← hlen]; exact few
  refine PySem.W.sorted_of_sort hp.isList hZ (PyProof.Rows.ksk_s1 _ _) (fun _ => PyProof.Rows.ksk_l1 _ _) fun E' => ?_
  rw [PyProof.Rows.ksk_t1]
  generalize ea : s.heap.objs.size + 1 = a
  have hA : (PySem.W.copyHeap s.heap its).get? a = some (seqObj "list" its.toArray 0) := by rw [← ea]; exact PySem.W.copyHeap_at s.heap its
  have sub : ∀ b o, s.heap.get? b = some o → b ≠ a := fun b o e => by rw [← ea]; exact Nat.ne_of_lt (Nat.lt_succ_of_lt (Heap.lt_size e))
  obtain ⟨e1, hA1⟩ : ∃ e1, ((PySem.W.copyHeap s.heap its).update a (Obj.mapSeq fun _ => (#[] : Array Value))).get? a = some (seqObj "list" #[] e1) := ⟨_, get?_update_seq hA fun _ => #[]⟩
  generalize eh1 : (PySem.W.copyHeap s.heap its).update a (Obj.mapSeq fun _ => (#[] : Array Value)) = h1 at hA1
  have k1 : ∀ b o, s.heap.get? b = some o → h1.get? b = some o := fun b o e => by
    rw [← eh1, Heap.get?_update_ne _ _ _ _ (sub b o e)]
    exact PySem.W.copyHeap_old e
  have sz : s.heap.objs.size ≤ a := by rw [← ea]; exact Nat.le_succ _
  have nA : H a = none := I.hok.fresh sz
  have fpA : ∀ H' : Hp, H' a = none → FpOk X pins H' a := fun H' n => I.fpOk sz n
  have I1 : Inv X pins σ H { s with heap := h1 } := I.kept (t' := s.toks) k1
  have I2 : Inv X ((a, seqObj "list" #[] e1) :: pins) σ H { s with heap := h1 } := I1.pins_of fun p hp => by
    rcases List.mem_cons.mp hp with z | z
    · subst z
      exact ⟨hA1, nA, (fpA H nA).2.1, (fpA H nA).2.2.1, fun v z => by cases z⟩
    · exact I1.pin p (List.mem_append_right _ z)
  have I3 : Inv X ((a, seqObj "list" #[] e1) :: pins) σ H { s with heap := h1.push (seqObj "tuple" its.toArray 0) } := I2.kept (t' := s.toks) fun b o e => Heap.get?_push_of_some _ e
  generalize ek : (h1.push (seqObj "tuple" its.toArray 0)).objs.size = kS
  have nK : H kS = none := I3.hok.fresh (Nat.le_of_eq ek)
  have hne : a ≠ kS := fun z => by
    have := Heap.lt_size (Heap.get?_push_of_some (seqObj "tuple" its.toArray 0) hA1)
    rw [ek, z] at this
    exact Nat.lt_irrefl _ this
  have hK2 : ((h1.push (seqObj "tuple" its.toArray 0)).push (seqObj "list" #[] 0)).get? kS = some (seqObj "list" #[] 0) := by rw [← ek]; exact Heap.get?_push_size _ rfl
  have I4 : Inv X ((a, seqObj "list" #[] e1) :: pins) σ (upd H kS (.lst [])) { s with heap := (h1.push (seqObj "tuple" its.toArray 0)).push (seqObj "list" #[] 0) } :=
    I3.laid (t' := s.toks) (fun b o e => Heap.get?_push_of_some _ e) (Nat.le_of_eq ek) ⟨Nat.zero_le _, [], 0, .nil, hK2⟩
  have lo : X.s_0.heap.objs.size ≤ kS := by rw [← ek]; exact I3.sz
  unfold PyProof.Rows.ksk_tree
  refine wpAny_bind (listItems_at hA rfl ?_)
  refine wpAny_bind (listUpdate_at hA rfl ?_ (by simpa using hZ) (Nat.zero_le _))
  rw [eh1]
  refine wpAny_bind (seqEpoch_at hA1 rfl ?_)
  refine wpAny_bind (wpAny_newTuple ?_ (show its.length ≤ _ from hZ))
  refine wpAny_bind (wpAny_newList ?_ (Nat.zero_le _))
  refine wpAny_holding ?_
  show wpAny _ _ (PyProof.Rows.ksk_rest a (.ref f) false its.toArray e1 (.ref (h1.push (seqObj "tuple" its.toArray 0)).objs.size)) _ _ { s with heap := (h1.push (seqObj "tuple" its.toArray 0)).push (seqObj "list" #[] 0) }
  rw [ek]
  unfold PyProof.Rows.ksk_rest
  refine wpAny_bind (wpAny_rule ?_)
  rw [List.forIn_toArray]
  refine wpAny_bind (PyProof.Rows.ksk_fold (fun i s' => ∃ H' ks, Inv X ((a, seqObj "list" #[] e1) :: pins) σ H' s' ∧ J kS i H' ks ∧ ks.length = i) its 0 _ ⟨_, _, I4, start kS nK, rfl⟩ ?step ?done)
  case step =>
    rintro j x s' hx ⟨H1, ks, J1, j1, lk⟩
    simp only [Nat.zero_add] at j1 lk ⊢
    have hj : j < its.length := (List.getElem?_eq_some_iff.mp hx).1
    obtain ⟨v, hv, rx⟩ := vals_at rv hx
    refine wpAny_bind (wpAny_attempt (wpAny_mono (turn _ kS j v x s' H1 ks hv rx J1 j1) (fun y s2 he => ?_) fun _ _ hF => hF.elim))
    obtain ⟨k, H2, J2, rk, h2, j2⟩ := he
    obtain ⟨z2, its2, n2, r2, hat⟩ := J2.hok kS _ h2
    have hat : s2.heap.get? kS = some (seqObj "list" its2.toArray n2) := hat
    obtain ⟨c2, hc2⟩ : ∃ c2, (s2.heap.update kS (Obj.mapSeq (·.push y))).get? kS = some (seqObj "list" (its2.toArray.push y) c2) := ⟨_, get?_update_seq hat (·.push y)⟩
    have l1 : (ks ++ [k]).length ≤ sizeLine := by rw [List.length_append, List.length_singleton]; omega
    have l2 : its2.length = ks.length := r2.length.symm
    refine wpAny_bind (listUpdate_at hat rfl ?_ (by rw [List.size_toArray]; omega) (by rw [Array.size_push, List.size_toArray]; omega))
    refine wpAny_pure ⟨rfl, _, _, ?_, j2, by rw [List.length_append, List.length_singleton]; omega⟩
    refine J2.write (x := kS) (e := kS) (t' := s2.toks) (by rw [h2]; exact True.intro) (.inl rfl) (fun b u hb e => by rw [Heap.get?_update_ne _ _ _ _ hb]; exact e) ⟨_, hc2⟩ ⟨l1, its2 ++ [y], c2, vals_snoc r2 rk, by rw [hc2]; simp⟩
  case done =>
    rintro s' ⟨H1, ks, J1, j1, lk⟩
    simp only [Nat.zero_add] at j1 lk
    have pinA := J1.pin (a, seqObj "list" #[] e1) (List.mem_append_right _ List.mem_cons_self)
    have I5 : Inv X pins σ H1 s' := J1.pins_of fun p hp => J1.pin p (List.mem_append_right _ (List.mem_cons_of_mem _ hp))
    have hk := know _ _ _ _ j1
    obtain ⟨z2, its2, n2, r2, hat⟩ := J1.hok kS _ hk
    have hat : s'.heap.get? kS = some (seqObj "list" its2.toArray n2) := hat
    obtain ⟨kz, KA, lz, q⟩ := fin a kS H1 ks hne nA pinA.2.1 (by rw [hlen]; exact j1)
    have hk' := KA.rd s' its2 I5 r2
    refine wpAny_bind (listItems_at hat rfl ?_)
    have kp : PySem.W.KeepsBut a (s'.heap.update kS fun o => { o with data := .freed }) s'.heap := fun b o hb e => by
      by_cases hb2 : b = kS
      · rw [hb2, free_at] at e; cases e
      · rwa [Heap.get?_update_ne _ _ _ _ hb2] at e
    refine PySem.W.keyH_end (κ := PySem.W.dataKind s'.heap kz) (vs := its) (b := false) kp (free_at _ _) hat pinA.1 (Ne.symm hne) ?_ (by rw [List.size_toArray, ← r2.length, lk]) hZ fun h' tk c kp' hat' => ⟨rfl, ?_⟩
    · exact PySem.W.SortsAt.data (by simpa using hk') KA.al KA.so KA.rm
    · have mz : (vs.zip kz).map (·.2) = kz := List.map_snd_zip (by omega)
      have ko : PySem.W.KeyedOut false ((vs.zip kz).map (·.2)) its (PySem.W.sortVals (PySem.W.dataKind s'.heap kz) false its2 its) := by
        rw [mz]
        exact ⟨s'.heap, its2, KA.al, rfl, hk'⟩
      have rs := row_each (PySem.W.keyedOut_each (fun b : V × PyData => b.2) ko (each_row rv lz.symm))
      refine ⟨.ref a, _, inv_sorted I5 (fpA H1 pinA.2.1) hk hne lo (fun b o hb hb2 e => kp' b o hb (by rw [Heap.get?_update_ne _ _ _ _ hb2]; exact e)) (by simpa using hat') rs ?_, rfl, q⟩
      rw [List.length_map, List.length_mergeSort, List.length_zip]
      omega
end
end DL
set_option maxHeartbeats 1000000
namespace DL
open PySem PySem.Spec PyProof PyProof.Rows L2
open PySem.W (EachIs AllAlike Sortable dataLe)
noncomputable def byKeys (ds ks : List D) : List D := ((ds.zip ks).mergeSort fun p q => ordD p.2 q.2).map (·.1)
noncomputable def sortByE (ds ks : List D) : Option RV := if sortOk ks = true ∧ ks.length = ds.length then some (.fr (.lst (byKeys ds ks))) else none
noncomputable def kSortK (i : Nat) (mb : DS → Res RV) (ds : List D) (τ : DS) : Res RV := (compL [i] (tgN i) mYes mb ds [] τ).bind fun ks τ2 => ofO (sortByE ds ks) τ2
def rowsOf (d : D) (τ : DS) : Res (List D) := match d with
  | .lst ds => .ok ds τ
  | .rol ds => .ok ds τ
  | _ => .stuck
noncomputable def mSortK (me : DS → Res RV) (i : Nat) (mb : DS → Res RV) : DS → Res RV := fun τ => (((me τ).bind force).bind rowsOf).bind (kSortK i mb)
section
variable {g : Gm} {K : PySem.W.Frag} {σ : L2.St} {τ0 τ : DS} {H0 S0 H S : Hp}
theorem Abs.sort (A : Abs g K σ H τ S) {a kS : Addr} {vs : List V} {xs : List V} (hk : H kS = some (.lst xs)) (nk : S kS = none) (no : ¬ Own σ τ kS) (ha : H a = none) : Abs g K σ (hSort H a kS vs) τ S := by
  have at_ : ∀ b o, H b = some o → b ≠ kS → hSort H a kS vs b = some o := fun b o e n => by rw [hSort_ne n (fun z => by rw [z, ha] at e; cases e)]; exact e
  refine ⟨fun b o e => at_ b o (A.le _ _ e) (fun z => by rw [z, nk] at e; cases e), A.len, A.dat, fun i c e => ?_, A.inj, fun p hp => ?_⟩
  · obtain ⟨b, o, e1, e2, n, r⟩ := A.own i c e
    exact ⟨b, o, e1, at_ b o e2 (fun z => no (by rw [← z]; exact ⟨i, c, e, e1⟩)), n, r⟩
  · obtain ⟨n, ps, e, t, c⟩ := A.tab p hp
    exact ⟨n, ps, at_ _ _ e (fun z => by rw [z, hk] at e; cases e), t, c⟩
theorem Ext.sort (e : Ext σ τ0 H0 S0 σ τ H S) {a kS : Addr} {vs : List V} (hk : H0 kS = none) (ha : H0 a = none) : Ext σ τ0 H0 S0 σ τ (hSort H a kS vs) S := by
  refine ⟨e.st, fun b o h nt n no => ?_, e.ow, fun b h => ?_⟩
  · obtain ⟨h1, h2⟩ := e.pv b o h nt n no
    exact ⟨by rw [hSort_ne (fun z => by rw [z, hk] at h; cases h) (fun z => by rw [z, ha] at h; cases h)]; exact h1, h2⟩
  · by_cases h1 : b = kS
    · rw [h1]; exact hk
    · by_cases h2 : b = a
      · rw [h2]; exact ha
      · rw [hSort_ne h1 h2] at h; exact e.al _ h
theorem zip3_a {α β γ δ : Type} (f : γ → δ) : ∀ {vs : List α} {ds : List β} {ks : List γ}, vs.length = ds.length → ((vs.zip ds).zip ks).map (fun z => (z.1.1, f z.2)) = vs.zip (ks.map f)
  | [], _, _, _ => by simp
  | _ :: _, [], _, h => by simp at h
  | _ :: _, _ :: _, [], _ => by simp
  | v :: vs, d :: ds, k :: ks, h => by
    have := zip3_a f (vs := vs) (ds := ds) (ks := ks) (by simpa using h)
    simp only [List.zip_cons_cons, List.map_cons, this]
theorem zip3_b {α β γ : Type} : ∀ {vs : List α} {ds : List β} {ks : List γ}, vs.length = ds.length → ((vs.zip ds).zip ks).map (fun z => (z.1.2, z.2)) = ds.zip ks
  | [], [], _, _ => by simp
  | [], _ :: _, _, h => by simp at h
  | _ :: _, [], _, h => by simp at h
  | _ :: _, _ :: _, [], _ => by simp
  | v :: vs, d :: ds, k :: ks, h => by
    have := zip3_b (vs := vs) (ds := ds) (ks := ks) (by simpa using h)
    simp only [List.zip_cons_cons, List.map_cons, this]
theorem byKeys_rep {vs : List V} {ds ks : List D} (rl : RepL g K S vs ds) : RepL g K S (((vs.zip (ks.map pyE)).mergeSort (dataLe false (·.2))).map (·.1)) (byKeys ds ks) := by
  have lv : vs.length = ds.length := rl.length
  have m1 := List.map_mergeSort (r := fun z z' : (V × D) × D => ordD z.2 z'.2) (s := dataLe false fun b : V × PyData => b.2) (f := fun z : (V × D) × D => (z.1.1, pyE z.2)) (l := (vs.zip ds).zip ks) (fun _ _ _ _ => rfl)
  have m2 := List.map_mergeSort (r := fun z z' : (V × D) × D => ordD z.2 z'.2) (s := fun p q : D × D => ordD p.2 q.2) (f := fun z : (V × D) × D => (z.1.2, z.2)) (l := (vs.zip ds).zip ks) (fun _ _ _ _ => rfl)
  rw [zip3_a pyE lv] at m1
  rw [zip3_b lv] at m2
  unfold byKeys
  rw [← m1, ← m2, List.map_map, List.map_map]
  have q := repl_of (g := g) (K := K) (S := S) (zs := (((vs.zip ds).zip ks).mergeSort fun z z' => ordD z.2 z'.2).map (·.1)) fun p hp => by
    obtain ⟨z, hz, rfl⟩ := List.mem_map.mp hp
    exact repl_zip rl z.1 (List.of_mem_zip ((List.mergeSort_perm _ _).mem_iff.mp hz)).1
  rw [List.map_map, List.map_map] at q
  exact q
end
section
variable {X : Cx} {g : Gm} {W : WX} {pins : List (Addr × Obj)} {σ : L2.St} {H S : Hp} {τ : DS}
theorem keys_at {ks : List V} {acc : List D} (hu : X.A.units + 65 < cLine) (A : Abs g X.K σ H τ S) (rl : RepL g X.K S ks acc) (ok : sortOk acc = true) : KeysAt X pins σ H ks (acc.map pyE) := by
  unfold sortOk at ok
  rw [Bool.and_eq_true_iff, Bool.and_eq_true_iff] at ok
  obtain ⟨o1, o2, o3⟩ := ok
  have each : ∀ {s : Shared}, Inv X pins σ H s → ∀ {ks : List V} {us : List Value} {acc : List D}, Vals ks us → RepL g X.K S ks acc → (∀ d ∈ acc, (pyD d).isSome = true) → EachIs (fun v k => ∃ as, Reads s.heap v k as) us (acc.map pyE) := by
    intro s I ks us acc rv
    induction rv generalizing acc with
    | nil => intro rl _; cases rl; exact .nil
    | cons r t ih =>
      intro rl h
      cases rl with
      | @cons _ _ d ds r1 r2 =>
        obtain ⟨p, hp⟩ := Option.isSome_iff_exists.mp (h d List.mem_cons_self)
        refine .cons ?_ (ih r2 fun e he => h e (List.mem_cons_of_mem _ he))
        rw [pyE_some hp]
        exact Dp.reads I p _ _ (Dp.up A.le (Rep.dp r1 hp)) r
  have dp : ∀ d ∈ acc, (pyD d).isSome = true ∧ (pyE d).depth ≤ 60 := fun d hd => by
    have h1 := List.all_eq_true.mp o1 d hd
    rw [Bool.and_eq_true_iff] at h1
    exact ⟨h1.1, of_decide_eq_true h1.2⟩
  refine ⟨fun s us I rv => each I rv rl fun d hd => (dp d hd).1, fun x hx y hy => ?_, ?_, fun x hx => ?_⟩
  · obtain ⟨b, hb, rfl⟩ := List.mem_map.mp hx
    obtain ⟨c, hc, rfl⟩ := List.mem_map.mp hy
    exact List.all_eq_true.mp (List.all_eq_true.mp o2 b hb) c hc
  · rcases Bool.or_eq_true_iff.mp o3 with o | o
    · refine .inl fun x hx => ?_
      obtain ⟨b, hb, rfl⟩ := List.mem_map.mp hx
      have q := List.all_eq_true.mp o b hb
      generalize pyE b = z at q ⊢
      unfold tupN at q
      split at q
      · exact ⟨_, _, rfl⟩
      · cases q
    · refine .inr fun x hx => ?_
      obtain ⟨b, hb, rfl⟩ := List.mem_map.mp hx
      have q := List.all_eq_true.mp o b hb
      generalize pyE b = z at q ⊢
      exact ⟨fun e => (by rw [e] at q; cases q), fun xs e => (by rw [e] at q; cases q)⟩
  · obtain ⟨b, hb, rfl⟩ := List.mem_map.mp hx
    have d := (dp b hb).2
    show X.A.units + 1 + 1 + _ < cLine
    omega
def tLamE (X : Cx) (P : Addr) (q : Str) (params : Arguments) (body : Expr) (scope : Scope) : TE := fun _ H Q => ∃ ps, H P = some (.tbl ps) ∧ TriplesOk ps.toList ∧ (∀ (p : Pos) (cv : Value), codeAmong p ps.toList = some cv → ∃ c, cv = .ref c ∧ H c = some (LamX.CodeO c q)) ∧
  ∀ f c' pm ctv ps', NewLam H P c' f ps ps' q → Q (.ref f) (hLam H P c' f ps' q (PySem.W.kla_obj "<lambda>" q params body scope (cloFrom X.env.cells scope.names []) pm c' ctv))
theorem pe_lam {c P : Addr} {q : Str} {params : Arguments} {body : Expr} {scope : Scope} {pos : Pos} (TB : LamX.TabB X.base X.mg c P) (hcode : X.env.code = .ref c) (hq : q = X.env.qual ++ "<lambda>") (hdef : defaultsOf params X.env = ([], []))
    (hfree : X.Ok → ∀ y ∈ scope.names, y.2 = .free → ∃ c, X.env.cells.lookup y.1 = some c) : PE X (.Lambda params body scope pos) (tLamE X P q params body scope) :=
  ⟨fun pins s σ H Q I ⟨ps, hP, tr, known, h⟩ => lam_made I TB hcode hP tr hq known hdef (hfree I.ok) fun f c' pm ctv ps' s' n J => ⟨.ref f, _, J, rfl, h f c' pm ctv ps' n⟩⟩
theorem wipe_set {i : Nat} {v : V} : (wipe σ [i]).set i (some v) = σ.set i (some v) := by
  refine List.ext_getElem? fun j => ?_
  by_cases h : i = j
  · subst h
    by_cases hl : i < σ.length
    · rw [List.getElem?_set_self (by rw [wipe_length]; exact hl), List.getElem?_set_self hl]
    · rw [List.getElem?_eq_none (by rw [List.length_set, wipe_length]; omega), List.getElem?_eq_none (by rw [List.length_set]; omega)]
  · rw [List.getElem?_set_ne h, List.getElem?_set_ne h, wipe_out (by simpa using Ne.symm h)]
theorem set_wipe {i : Nat} {v : V} : wipe (σ.set i (some v)) [i] = wipe σ [i] := by
  refine List.ext_getElem? fun j => ?_
  by_cases h : j = i
  · subst h
    by_cases hl : j < σ.length
    · rw [wipe_in (by simp) (by rw [List.length_set]; exact hl), wipe_in (by simp) hl]
    · rw [List.getElem?_eq_none (by rw [wipe_length, List.length_set]; omega), List.getElem?_eq_none (by rw [wipe_length]; omega)]
  · rw [wipe_out (by simpa using h), wipe_out (by simpa using h), List.getElem?_set_ne (Ne.symm h)]
end
section
variable {X : Cx} {g : Gm} {W : WX}
theorem de_sortG {e body : Expr} {me mb : DS → Res RV} {c P : Addr} {q : Str} {params : Arguments} {scope : Scope} {i : Nat} {p pos lpos kpos : Pos} (hu : X.A.units + 65 < cLine) (hg : Gl X "sorted") (hm : X.mg "sorted" = none) (he : DE X g W e me)
    (TB : LamX.TabB X.base X.mg c P) (hcode : X.env.code = .ref c) (hq : q = X.env.qual ++ "<lambda>") (hT : (P, q) ∈ g.tabs) (hun : ∀ t ∈ g.tabs, t.1 = P → t.2 = q) (hdef : defaultsOf params X.env = ([], [])) (hfree : X.Ok → ∀ y ∈ scope.names, y.2 = .free → ∃ c, X.env.cells.lookup y.1 = some c)
    (hcall : ∀ (f c' : Addr) (pm ctv : Value) (pins : List (Addr × Obj)) (s : Shared) (σ : L2.St) (H : Hp) (v : V) (u : Value) (Q : VK), Inv X pins σ H s → H f = some (LamO f (PySem.W.kla_obj "<lambda>" q params body scope (cloFrom X.env.cells scope.names []) pm c' ctv)) → H c' = some (LamX.CodeO c' q) → RelV v u →
      LE g X.K WF mb (σ.set i (some v)) H Q → wpAny (model X.prog X.w) X.A.in1.in1 (call (.ref f) [u]) (EP X pins σ Q) (fun _ _ => False) s)
    (hs : starEach [e] X.env = [(false, eval e X.env)] := by rfl) (hs2 : backTo pos (starEach [e] X.env) = (false, eval e X.env) :: backTo pos (starEach [] X.env) := by rfl) (hpl : (backTo pos (starEach [e] X.env)).any (·.1) = false := by rfl)
    (hall : (backToKw pos (keywordEach [⟨some "key", .Lambda params body scope lpos, kpos⟩] X.env)).all (·.1.isSome) = true := by rfl) (hnone : (backToKw pos (keywordEach [⟨some "key", .Lambda params body scope lpos, kpos⟩] X.env)).any (·.1.isNone) = false := by rfl)
    (hks : (backToKw pos (keywordEach [⟨some "key", .Lambda params body scope lpos, kpos⟩] X.env)).filterMap (·.1) = [Str.ofString "key"] := by rfl) :
    DE X g W (.Call (.Name "sorted" p) [e] [⟨some "key", .Lambda params body scope lpos, kpos⟩] pos) (mSortK me i mb) := by
  refine ⟨⟨fun pins s σ H Q I h => ?_⟩⟩
  obtain ⟨τ, S, A, h⟩ := h
  have ha : LE g X.K W me σ H fun v H1 => ∃ l vs ds τ2 S2, v = V.ref l ∧ SqL X.K S2 l vs ∧ RepL g X.K S2 vs ds ∧ Abs g X.K σ H1 τ2 S2 ∧ Ext σ τ H S σ τ2 H1 S2 ∧ FinP g X.K W σ τ H S (kSortK i mb ds τ2) fun τ' r H' S' => ∀ v, RepV g X.K σ τ' H H' S' v r → Q v H' := by
    replace h : FinP g X.K W σ τ H S ((((me τ).bind force).bind rowsOf).bind (kSortK i mb)) fun τ' r H' S' => ∀ v, RepV g X.K σ τ' H H' S' v r → Q v H' := h
    rw [Res.bind_assoc, Res.bind_assoc] at h
    refine ⟨τ, S, A, (FinP.bind0 h).mono fun τ1 r H1 S1 A1 e1 h1 v rv => ?_⟩
    obtain ⟨τ2, S2, d, A2, e2, rd, _, _, h2⟩ := FinP.force A1 e1 (.inl rv) h1
    cases rd with
    | @lst a vs ds hs rl => exact ⟨a, vs, ds, τ2, S2, rfl, SqL.of hs, rl, A2, e2, h2⟩
    | @rol a vs ds hs rl => exact ⟨a, vs, ds, τ2, S2, rfl, hs, rl, A2, e2, h2⟩
    | _ => exact h2.elim
  refine wpAny_Call_Name_kw (ld_blt I hg hm boot_sorted ?_ (by decide) (by decide))
  have hk := pk_cons (nm := some "key") (kpos := kpos) (pe_lam (X := X) (pos := lpos) (params := params) (body := body) (scope := scope) TB hcode hq hdef hfree) (pk_nil (X := X))
  obtain ⟨PP, hPP⟩ : ∃ PP : V → Hp → Prop, PP = fun v H1 => ∃ l vs ds τ2 S2, v = V.ref l ∧ SqL X.K S2 l vs ∧ RepL g X.K S2 vs ds ∧ Abs g X.K σ H1 τ2 S2 ∧ Ext σ τ H S σ τ2 H1 S2 ∧ FinP g X.K W σ τ H S (kSortK i mb ds τ2) fun τ' r H' S' => ∀ v, RepV g X.K σ τ' H H' S' v r → Q v H' := ⟨_, rfl⟩
  rw [← hPP] at ha
  have ha2 : tCons (LE g X.K W me) tNil σ H fun vs H1 => ∃ x, vs = [x] ∧ PP x H1 := ha.mono fun v H1 z => ⟨v, rfl, z⟩
  refine PyProof.Rows.callWith_kw (thn ((pa_cons he.pe pa_nil hs).run pos pins s σ H _ I ha2) fun us s1 ⟨vs0, H1, I1, r1, v0, ev0, hv0⟩ => ?_) hs2 hpl hall hnone
  rw [hPP] at hv0
  obtain ⟨l, vs, ds, τ2, S2, ev, hl, rl, A2, e2, h2⟩ := hv0
  subst ev0 ev
  obtain ⟨nP, ps, hP, tr, kn⟩ := A2.tab _ hT
  have hk2 : tCons (tLamE X P q params body scope) tNil σ H1 fun zs H2 => ∃ f c' pm ctv ps', zs = [V.ref f] ∧ NewLam H1 P c' f ps ps' q ∧ H2 = hLam H1 P c' f ps' q (PySem.W.kla_obj "<lambda>" q params body scope (cloFrom X.env.cells scope.names []) pm c' ctv) :=
    ⟨ps, hP, tr, fun p cv z => let ⟨c0, e1, e2⟩ := kn p cv z; ⟨c0, e1, A2.le _ _ e2⟩, fun f c' pm ctv ps' n => ⟨f, c', pm, ctv, ps', rfl, n, rfl⟩⟩
  refine thn (hk.run pos pins s1 σ H1 _ I1 hk2) fun ws s2 ⟨zs, H2, I2, r2, f, c', pm, ctv, ps', ez, nl, eH⟩ => ?_
  subst ez eH
  rw [hks]
  cases r1 with
  | cons ra rn =>
    cases rn
    cases ra
    cases r2 with
    | cons rb rn =>
      cases rn
      cases rb
      obtain ⟨A3, e3⟩ := A2.lam (ob := PySem.W.kla_obj "<lambda>" q params body scope (cloFrom X.env.cells scope.names []) pm c' ctv) hT hun hP nl
      have sf : sLam S2 c' f q (PySem.W.kla_obj "<lambda>" q params body scope (cloFrom X.env.cells scope.names []) pm c' ctv) f = some (LamO f (PySem.W.kla_obj "<lambda>" q params body scope (cloFrom X.env.cells scope.names []) pm c' ctv)) := by unfold sLam; rw [upd_same]
      have sc : sLam S2 c' f q (PySem.W.kla_obj "<lambda>" q params body scope (cloFrom X.env.cells scope.names []) pm c' ctv) c' = some (LamX.CodeO c' q) := by unfold sLam; rw [upd_ne (Ne.symm nl.fc), upd_same]
      generalize hLam H1 P c' f ps' q (PySem.W.kla_obj "<lambda>" q params body scope (cloFrom X.env.cells scope.names []) pm c' ctv) = H3 at I2 A3 e3
      generalize sLam S2 c' f q (PySem.W.kla_obj "<lambda>" q params body scope (cloFrom X.env.cells scope.names []) pm c' ctv) = S3 at A3 e3 sf sc
      have e13 : Ext σ τ H S σ τ2 H3 S3 := e2.trans e3
      have rl3 : RepL g X.K S3 vs ds := rl.mono e3.st
      have hl3 : SqL X.K H3 l vs := A3.le.seq (e3.st.seq hl)
      obtain ⟨its, rvs, pl, hz⟩ := I2.list hl3
      unfold kSortK at h2
      refine sort_keyed I2 hl3 hz (fun kS j H' ks => ∃ τ' S' acc, Abs g X.K σ H' τ' S' ∧ Ext σ τ H S σ τ' H' S' ∧ Same S3 S' ∧ H' kS = some (.lst ks) ∧ S' kS = none ∧ ¬ Own σ τ' kS ∧ H kS = none ∧ RepL g X.K S' ks acc ∧
          FinP g X.K W σ τ H S ((compL [i] (tgN i) mYes mb (ds.drop j) acc τ').bind fun ks τ2 => ofO (sortByE ds ks) τ2) fun τ' r H' S' => ∀ v, RepV g X.K σ τ' H H' S' v r → Q v H')
        (fun kS n => ⟨τ2, S3, [], A3.priv n _, e13.trans (A3.ext_priv n _), Same.refl _, upd_same, A3.sn n, Own.not_new A3 n, e13.al _ n, .nil, h2⟩) (fun kS j H' ks z => by obtain ⟨_, _, _, _, _, _, z, _⟩ := z; exact z) ?_ ?_
      · intro pins' kS j v u s' H' ks hv ru I' ⟨τ', S', acc, A', e', sm, hk', nk, no, h0, ra, h3⟩
        obtain ⟨d, hd, rd⟩ := rl3.getV hv
        obtain ⟨hj, ed⟩ := List.getElem?_eq_some_iff.mp hd
        rw [List.drop_eq_getElem_cons hj, ed] at h3
        unfold compL at h3
        dsimp only [tgN, mYes] at h3
        obtain ⟨A5, e5⟩ := (A'.wipe [i]).set i (rd.mono sm)
        rw [wipe_set] at A5 e5
        refine hcall f c' pm ctv pins' s' σ H' v u _ I' (A'.le _ _ (sm _ _ sf)) (A'.le _ _ (sm _ _ sc)) ru ?_
        refine ⟨_, S', A5, ?_⟩
        cases q3 : mb ((wipeT τ' [i]).set i (.dat d)) with
        | err c τ7 => rw [q3] at h3; exact h3.elim
        | stuck => rw [q3] at h3; exact h3.elim
        | ok r τ7 =>
          rw [q3] at h3
          intro H7 S7 A7 e7 y rv
          simp only [Res.bind] at h3
          cases q4 : force r τ7 with
          | err c τ8 => rw [q4] at h3; exact h3.elim
          | stuck => rw [q4] at h3; exact h3.elim
          | ok d8 τ8 =>
            rw [q4] at h3
            dsimp only at h3
            obtain ⟨S8, A8, e8, rd8, sm8⟩ := force_ok A7 e7 (.inl rv) q4
            have f8 : Ext (wipe σ [i]) (wipeT τ' [i]) H' S' (σ.set i (some v)) τ8 H7 S8 := e5.trans e8
            obtain ⟨A9, e9⟩ := A'.unwipe A8 f8 set_wipe
            obtain ⟨z1, z2⟩ := f8.pv kS _ hk' (fun _ z => by cases z) nk (fun z => no (own_wipe z).1)
            have no9 : ¬ Own σ (unwipe τ' τ8 [i]) kS := fun z => by
              rcases e9.ow kS z with z | z
              · exact no z
              · rw [hk'] at z; cases z
            by_cases hlen : acc.length < bigN
            · rw [if_pos hlen] at h3
              exact ⟨z1, _, S8, acc ++ [d8], A9.poke z1 (fun _ z => by cases z) z2 no9, (e'.trans e9).poke h0, sm.trans e9.st, upd_same, z2, no9, h0, (ra.mono e9.st).append (.cons rd8 .nil), h3⟩
            · rw [if_neg hlen] at h3; exact h3.elim
      · intro a kS H' ks hne nA nA' ⟨τ', S', acc, A', e', sm, hk', nk, no, h0, ra, h3⟩
        have hlen : vs.length = ds.length := rl3.length
        rw [hlen, List.drop_length] at h3
        unfold compL at h3
        replace h3 : FinP g X.K W σ τ H S (ofO (sortByE ds acc) τ') fun τ' r H' S' => ∀ v, RepV g X.K σ τ' H H' S' v r → Q v H' := h3
        unfold sortByE at h3
        by_cases ok : sortOk acc = true ∧ acc.length = ds.length
        · rw [if_pos ok] at h3
          have n0 : H a = none := e13.al _ nA
          refine ⟨acc.map pyE, keys_at hu A' ra ok.1, by rw [List.length_map]; omega, ?_⟩
          refine FinP.at h3 (A'.sort hk' nk no nA') (e'.sort h0 n0) _ (.fr n0 (hSort_a hne) (A'.sn nA') (fun z => ?_) (.lst (byKeys_rep (rl3.mono sm))))
          obtain ⟨o, z⟩ := A'.own_some z
          rw [nA'] at z; cases z
        · rw [if_neg ok] at h3; exact h3.elim
theorem de_sortK {e body : Expr} {me mb : DS → Res RV} {c P : Addr} {q : Str} {params : Arguments} {scope : Scope} {i k : Nat} {x : Str} {p pos lpos kpos : Pos} (hu : X.A.units + 65 < cLine) (hr : Room (k + 3) X.A) (hg : Gl X "sorted") (hm : X.mg "sorted" = none) (he : DE X g W e me)
    (TB : LamX.TabB X.base X.mg c P) (hcode : X.env.code = .ref c) (hq : q = X.env.qual ++ "<lambda>") (hT : (P, q) ∈ g.tabs) (hun : ∀ t ∈ g.tabs, t.1 = P → t.2 = q) (hdef : defaultsOf params X.env = ([], [])) (L : LamP X.N i x X.env.scope scope)
    (hbind : ∀ (pm ctv : Value) (c' : Addr) (u : Value) (cl : List (Str × Addr)), bindArgs (PySem.W.kla_fn "<lambda>" q params body scope cl pm (.ref c') ctv) ⟨[u], []⟩ = pure [(x, u)])
    (hb : ∀ (A : Around) (s : Shared) (H : Hp) (f c' : Addr), Room k (A.deeper (LamX.lamEnv X scope s.heap.objs.size f c')) → DE (LamX.lamCx X A X.stack s H (fun _ _ _ => False) scope f c') g WF body mb)
    (hs : starEach [e] X.env = [(false, eval e X.env)] := by rfl) (hs2 : backTo pos (starEach [e] X.env) = (false, eval e X.env) :: backTo pos (starEach [] X.env) := by rfl) (hpl : (backTo pos (starEach [e] X.env)).any (·.1) = false := by rfl)
    (hall : (backToKw pos (keywordEach [⟨some "key", .Lambda params body scope lpos, kpos⟩] X.env)).all (·.1.isSome) = true := by rfl) (hnone : (backToKw pos (keywordEach [⟨some "key", .Lambda params body scope lpos, kpos⟩] X.env)).any (·.1.isNone) = false := by rfl)
    (hks : (backToKw pos (keywordEach [⟨some "key", .Lambda params body scope lpos, kpos⟩] X.env)).filterMap (·.1) = [Str.ofString "key"] := by rfl) :
    DE X g W (.Call (.Name "sorted" p) [e] [⟨some "key", .Lambda params body scope lpos, kpos⟩] pos) (mSortK me i mb) :=
  de_sortG hu hg hm he TB hcode hq hT hun hdef (fun ok => L.cells ok) (fun f c' pm ctv pins s σ H v u Q I hf hc ru h => lam_call (tb := LE g X.K WF mb) I L hq hf hc (hbind _ _ _ _ _) hr ru (fun A s H hr2 => (hb A s H f c' hr2).pe) h) hs hs2 hpl hall hnone hks
end
end DL
set_option maxHeartbeats 1000000
namespace DL
open PySem PySem.Spec PyProof.Rows L2
section
variable {P : Program} {w : World} {K : PySem.W.Frag} {mg : Str → Option Value} {base : Heap} {g : Gm}
theorem fn_pC {x qual : Str} {st : Stmt} {f : Addr} {fd : FuncData} {N ps : List Str} {lv : Nat} {m : DS → SRes} (F : Fun K x qual st f fd) (Sc : FnScope N ps (defScope st))
    (hb : ∀ cdv : Value, fd.code = cdv → ∀ (A : Around) (outer : List Env) (s : Shared) (H : Hp) (E : XK), Room lv (A.deeper (envOfC qual (defScope st) s.heap.objs.size f cdv)) →
      DSs (cxOf (L2N.CX P w) P w K mg base N qual (defScope st) f cdv A outer s H E) g (fun cls d _ H => E cls d H) (fun _ => false) (defBody st) m) :
    FnOk P w K mg base (L2N.CX P w) (lv + 1) f fd ps (spP g K ps.length (runF N.length m)) := by
  obtain ⟨_, _, _, _, _, _, cdv, _, _, rfl, lk, hcd⟩ := F.ex
  refine fn_of lk hcd Sc (fun vs H Q E ⟨S, ds, _, rl, hl, _⟩ => rl.length.trans hl) fun A outer s H vs Q E hr ⟨S, ds, le, rl, hl, h⟩ => ⟨_, (hb cdv rfl A outer s H E hr).ps, ?_⟩
  unfold L2.start
  rw [show N.length - vs.length = N.length - ds.length by rw [rl.length]]
  refine ⟨ds.map SV.dat ++ List.replicate (N.length - ds.length) SV.emp, S, abs_start le rl, ?_⟩
  unfold runF at h
  revert h
  generalize m (ds.map SV.dat ++ List.replicate (N.length - ds.length) .emp) = r
  intro h
  have xt : ∀ {σ' : St} {τ' : DS} {H' S' : Hp}, Ext (vs.map some ++ List.replicate (N.length - ds.length) none) (ds.map SV.dat ++ List.replicate (N.length - ds.length) .emp) H S σ' τ' H' S' → Xt (fun _ => False) H S H' S' := fun e => ⟨e.st, fun a o h1 nt h2 _ => e.pv a o h1 nt h2 own_start, e.al⟩
  cases r with
  | nx τ' => exact fun σ' H' S' A e p => h .non H' S' ⟨A.le, A.tab⟩ (xt e) (.dat .non)
  | bk τ' => exact h.elim
  | ct τ' => exact h.elim
  | err c τ' => exact fun σ' H' S' A e p => h H' S' ⟨A.le, A.tab⟩ (xt e)
  | stuck => exact h.elim
  | rt r τ' =>
    refine fun σ' v H' S' A e p x => h v H' S' ⟨A.le, A.tab⟩ (xt e) ?_
    cases x with
    | dat r => exact .dat r
    | fr z hp n no r => exact .fr (z.resolve_left own_start) hp n r
end
end DL
set_option maxHeartbeats 1000000
namespace DL
open PySem PySem.Spec PyProof PyProof.Rows L2
def oneCell (x : Str) : List (Str × NameKind) → Bool
  | [] => false
  | (n, k) :: r => if k == NameKind.cell then decide (n = x) && (r.all fun y => !(y.2 == NameKind.cell)) else oneCell x r
structure LamC (N : List Str) (i : Nat) (x : Str) (sc scope : Scope) : Prop where
  kind : scope.kind = .function
  co : scope.isCoroutine = false
  gen : scope.isGenerator = false
  nd : N.Nodup
  at_ : N[i]? = some x
  par : scope.names.lookup x = some .cell
  one : oneCell x scope.names = true
  own : ∀ y ∈ scope.names, y.2 = .cell → y.1 = x
  noloc : ∀ y ∈ scope.names, y.2 ≠ .local
  free : ∀ y ∈ scope.names, y.2 = .free → sc.names.lookup y.1 = some .cell ∨ sc.names.lookup y.1 = some .free
theorem LamC.cells {X : Cx} {i : Nat} {x : Str} {scope : Scope} (L : LamC X.N i x X.env.scope scope) (ok : X.Ok) : ∀ y ∈ scope.names, y.2 = .free → ∃ c, X.env.cells.lookup y.1 = some c := fun y hy e => by
  rcases L.free y hy e with k | k
  · exact ok.has _ (.inl k)
  · exact ok.has _ (.inr k)
end DL
set_option maxHeartbeats 4000000
namespace Lw
open PySem PySem.Spec PyProof.Rows L2 DL
def topS (i : Nat) : Stmt := PySem.Challenge.pw_polyward_k02_whole_meetings_orders_aroun.main.body.getD i (.Pass ⟨0, 0, 0, 0⟩)
theorem bt_abs : bootBuiltins "abs" = some (.builtin "abs") := by decide +kernel
theorem bt_all : bootBuiltins "all" = some (.builtin "all") := by decide +kernel
theorem bt_bool : bootBuiltins "bool" = some (.type "bool") := by decide +kernel
theorem bt_dict : bootBuiltins "dict" = some (.type "dict") := by decide +kernel
theorem bt_int : bootBuiltins "int" = some (.type "int") := by decide +kernel
theorem bt_len : bootBuiltins "len" = some (.builtin "len") := by decide +kernel
theorem bt_list : bootBuiltins "list" = some (.type "list") := by decide +kernel
theorem bt_max : bootBuiltins "max" = some (.builtin "max") := by decide +kernel
theorem bt_set : bootBuiltins "set" = some (.type "set") := by decide +kernel
theorem bt_sorted : bootBuiltins "sorted" = some (.builtin "sorted") := by decide +kernel
theorem bt_str : bootBuiltins "str" = some (.type "str") := by decide +kernel
theorem bt_tuple : bootBuiltins "tuple" = some (.type "tuple") := by decide +kernel
structure Txt (K : PySem.W.Frag) (mg : Str → Option Value) (base : Heap) (g : Gm) (fd : Nat → FuncData) (ca cP : Nat → Addr) : Prop where
  z_abs : mg "abs" = none
  z_all : mg "all" = none
  z_bool : mg "bool" = none
  z_dict : mg "dict" = none
  z_enumerate : mg "enumerate" = none
  z_int : mg "int" = none
  z_isinstance : mg "isinstance" = none
  z_len : mg "len" = none
  z_list : mg "list" = none
  z_max : mg "max" = none
  z_range : mg "range" = none
  z_reversed : mg "reversed" = none
  z_set : mg "set" = none
  z_sorted : mg "sorted" = none
  z_str : mg "str" = none
  z_tuple : mg "tuple" = none
  z_zip : mg "zip" = none
  n_FARTHEST : ∃ t, mg "FARTHEST" = some (.int 1000 t)
  n_FINE : ∃ t, mg "FINE" = some (.int 1000000000 t)
  n_MOST_SPOTS : ∃ t, mg "MOST_SPOTS" = some (.int 60 t)
  m30 : mg "_law_draws" = some (.ref (g 30))
  f30 : Fun K "_law_draws" "_law_draws" (topS 30) (g 30) (fd 30)
  b30 : Binds K (fd 30) ["script"] []
  m31 : mg "_law_take" = some (.ref (g 31))
  f31 : Fun K "_law_take" "_law_take" (topS 31) (g 31) (fd 31)
  b31 : Binds K (fd 31) ["draws", "bound"] []
  m32 : mg "_law_pick" = some (.ref (g 32))
  f32 : Fun K "_law_pick" "_law_pick" (topS 32) (g 32) (fd 32)
  b32 : Binds K (fd 32) ["draws", "some"] []
  m39 : mg "_law_point" = some (.ref (g 39))
  f39 : Fun K "_law_point" "_law_point" (topS 39) (g 39) (fd 39)
  b39 : Binds K (fd 39) ["draws", "most"] []
  m40 : mg "_law_spots" = some (.ref (g 40))
  f40 : Fun K "_law_spots" "_law_spots" (topS 40) (g 40) (fd 40)
  b40 : Binds K (fd 40) ["draws", "many"] []
  m35 : mg "_law_mixed" = some (.ref (g 35))
  f35 : Fun K "_law_mixed" "_law_mixed" (topS 35) (g 35) (fd 35)
  b35 : Binds K (fd 35) ["draws", "some"] []
  m33 : mg "_law_same" = some (.ref (g 33))
  f33 : Fun K "_law_same" "_law_same" (topS 33) (g 33) (fd 33)
  b33 : Binds K (fd 33) ["actual", "due"] []
  m9 : mg "are_ascending" = some (.ref (g 9))
  f9 : Fun K "are_ascending" "are_ascending" (topS 9) (g 9) (fd 9)
  b9 : Binds K (fd 9) ["values"] []
  m7 : mg "is_integer" = some (.ref (g 7))
  f7 : Fun K "is_integer" "is_integer" (topS 7) (g 7) (fd 7)
  b7 : Binds K (fd 7) ["value"] []
  m8 : mg "is_within" = some (.ref (g 8))
  f8 : Fun K "is_within" "is_within" (topS 8) (g 8) (fd 8)
  b8 : Binds K (fd 8) ["value", "low", "high"] []
  m16 : mg "is_point" = some (.ref (g 16))
  f16 : Fun K "is_point" "is_point" (topS 16) (g 16) (fd 16)
  b16 : Binds K (fd 16) ["value"] []
  m17 : mg "are_spots" = some (.ref (g 17))
  f17 : Fun K "are_spots" "are_spots" (topS 17) (g 17) (fd 17)
  b17 : Binds K (fd 17) ["value"] []
  m20 : mg "check_spots" = some (.ref (g 20))
  f20 : Fun K "check_spots" "check_spots" (topS 20) (g 20) (fd 20)
  b20 : Binds K (fd 20) ["spots"] []
  m22 : mg "turned" = some (.ref (g 22))
  f22 : Fun K "turned" "turned" (topS 22) (g 22) (fd 22)
  b22 : Binds K (fd 22) ["a", "b", "c"] []
  m28 : mg "in_line" = some (.ref (g 28))
  f28 : Fun K "in_line" "in_line" (topS 28) (g 28) (fd 28)
  b28 : Binds K (fd 28) ["spots"] []
  m34 : mg "_law_flags" = some (.ref (g 34))
  f34 : Fun K "_law_flags" "_law_flags" (topS 34) (g 34) (fd 34)
  b34 : Binds K (fd 34) ["e"] []
  m18 : mg "is_stretch" = some (.ref (g 18))
  f18 : Fun K "is_stretch" "is_stretch" (topS 18) (g 18) (fd 18)
  b18 : Binds K (fd 18) ["value"] []
  m21 : mg "check_stretches" = some (.ref (g 21))
  f21 : Fun K "check_stretches" "check_stretches" (topS 21) (g 21) (fd 21)
  b21 : Binds K (fd 21) ["stretches"] []
  m10 : mg "shared" = some (.ref (g 10))
  f10 : Fun K "shared" "shared" (topS 10) (g 10) (fd 10)
  b10 : Binds K (fd 10) ["n", "d"] []
  m11 : mg "made" = some (.ref (g 11))
  f11 : Fun K "made" "made" (topS 11) (g 11) (fd 11)
  b11 : Binds K (fd 11) ["n", "d"] []
  m23 : mg "meeting_by" = some (.ref (g 23))
  f23 : Fun K "meeting_by" "meeting_by" (topS 23) (g 23) (fd 23)
  b23 : Binds K (fd 23) ["one", "other"] []
  m24 : mg "meeting" = some (.ref (g 24))
  f24 : Fun K "meeting" "meeting" (topS 24) (g 24) (fd 24)
  b24 : Binds K (fd 24) ["one", "other"] []
  m19 : mg "check_points" = some (.ref (g 19))
  f19 : Fun K "check_points" "check_points" (topS 19) (g 19) (fd 19)
  b19 : Binds K (fd 19) ["points"] []
  m26 : mg "angle" = some (.ref (g 26))
  f26 : Fun K "angle" "angle" (topS 26) (g 26) (fd 26)
  b26 : Binds K (fd 26) ["x", "y"] []
  m25 : mg "distance_by" = some (.ref (g 25))
  f25 : Fun K "distance_by" "distance_by" (topS 25) (g 25) (fd 25)
  b25 : Binds K (fd 25) ["a", "b"] []
  m27 : mg "around" = some (.ref (g 27))
  f27 : Fun K "around" "around" (topS 27) (g 27) (fd 27)
  b27 : Binds K (fd 27) ["center", "points"] []
  m45 : mg "_law_told" = some (.ref (g 45))
  f45 : Fun K "_law_told" "_law_told" (topS 45) (g 45) (fd 45)
  b45 : Binds K (fd 45) ["which", "one", "other"] []
  m38 : mg "_law_turn" = some (.ref (g 38))
  f38 : Fun K "_law_turn" "_law_turn" (topS 38) (g 38) (fd 38)
  b38 : Binds K (fd 38) ["a", "b", "c"] []
  m42 : mg "_law_half" = some (.ref (g 42))
  f42 : Fun K "_law_half" "_law_half" (topS 42) (g 42) (fd 42)
  b42 : Binds K (fd 42) ["center", "point"] []
  m43 : mg "_law_is_ahead" = some (.ref (g 43))
  f43 : Fun K "_law_is_ahead" "_law_is_ahead" (topS 43) (g 43) (fd 43)
  b43 : Binds K (fd 43) ["center", "one", "other"] []
  m44 : mg "_law_around" = some (.ref (g 44))
  f44 : Fun K "_law_around" "_law_around" (topS 44) (g 44) (fd 44)
  b44 : Binds K (fd 44) ["center", "points"] []
  m36 : mg "_law_common" = some (.ref (g 36))
  f36 : Fun K "_law_common" "_law_common" (topS 36) (g 36) (fd 36)
  b36 : Binds K (fd 36) ["a", "b"] []
  m37 : mg "_law_ratio" = some (.ref (g 37))
  f37 : Fun K "_law_ratio" "_law_ratio" (topS 37) (g 37) (fd 37)
  b37 : Binds K (fd 37) ["n", "d"] []
  m41 : mg "_law_meeting" = some (.ref (g 41))
  f41 : Fun K "_law_meeting" "_law_meeting" (topS 41) (g 41) (fd 41)
  b41 : Binds K (fd 41) ["one", "other"] []
  m46 : mg "law" = some (.ref (g 46))
  f46 : Fun K "law" "law" (topS 46) (g 46) (fd 46)
  b46 : Binds K (fd 46) ["script"] []
  cc27 : (fd 27).code = .ref (ca 27)
  tb27 : LamX.TabB base mg (ca 27) (cP 27)
  tm27 : (cP 27, ("around.<locals>.<lambda>" : Str)) ∈ g.tabs
  tu27 : ∀ t ∈ g.tabs, t.1 = cP 27 → t.2 = "around.<locals>.<lambda>"
  m1 : mg "PolyError" = some (.ref (g 1))
  m2 : mg "NotRight" = some (.ref (g 2))
  m3 : mg "NotThere" = some (.ref (g 3))
  m4 : mg "NoAnswer" = some (.ref (g 4))
  m5 : mg "TooLarge" = some (.ref (g 5))
  m6 : mg "Malformed" = some (.ref (g 6))
  x2 : PySem.W.excIn K (g 2) [.type "ValueError", .type "Exception", .type "BaseException", .type "object"] "ValueError.__new__" = true
  c2 : PySem.W.keepIn K (.ref (g 2)) = true
  s2 : PySem.W.subIn K (.ref (g 2)) (.type "BaseException") = some true
  t2 : PySem.W.typeIn K (.ref (g 2)) = some (.type "type")
  x3 : PySem.W.excIn K (g 3) [.type "ValueError", .type "Exception", .type "BaseException", .type "object"] "ValueError.__new__" = true
  c3 : PySem.W.keepIn K (.ref (g 3)) = true
  s3 : PySem.W.subIn K (.ref (g 3)) (.type "BaseException") = some true
  t3 : PySem.W.typeIn K (.ref (g 3)) = some (.type "type")
  e2_1 : PySem.W.exmOne K (.ref (g 2)) (.ref (g 1)) = some true
  e3_1 : PySem.W.exmOne K (.ref (g 3)) (.ref (g 1)) = some true
  xc2 : ExcC K (g 2)
  xc3 : ExcC K (g 3)
  k2_2 : PySem.W.kitOne K (.ref (g 2)) (.ref (g 2)) = some true
  k2_3 : PySem.W.kitOne K (.ref (g 2)) (.ref (g 3)) = some false
  k2_4 : PySem.W.kitOne K (.ref (g 2)) (.ref (g 4)) = some false
  k2_5 : PySem.W.kitOne K (.ref (g 2)) (.ref (g 5)) = some false
  k2_6 : PySem.W.kitOne K (.ref (g 2)) (.ref (g 6)) = some false
  k3_2 : PySem.W.kitOne K (.ref (g 3)) (.ref (g 2)) = some false
  k3_3 : PySem.W.kitOne K (.ref (g 3)) (.ref (g 3)) = some true
  k3_4 : PySem.W.kitOne K (.ref (g 3)) (.ref (g 4)) = some false
  k3_5 : PySem.W.kitOne K (.ref (g 3)) (.ref (g 5)) = some false
  k3_6 : PySem.W.kitOne K (.ref (g 3)) (.ref (g 6)) = some false
section
variable {P : Program} {w : World} {K : PySem.W.Frag} {mg : Str → Option Value} {base : Heap} {g : Gm} {fd : Nat → FuncData} {ca cP : Nat → Addr}
abbrev nn__law_draws : List Str := ["script", "draws", "seed", "cell", "number", "k"]
theorem sc__law_draws : FnScope nn__law_draws ["script"] (defScope (topS 30)) := ⟨rfl, rfl, rfl, by decide +kernel, rfl, by decide +kernel, by decide +kernel⟩
noncomputable def B_law_draws_0 : DS → SRes :=
 (mIfS (mTest (mBin gtD (mVar 4) (mC (.int 0)))) (mSeq
 (mDrop (mMeth 1 fAppend (mCons (mBin modD (mCB int1D (mCons (mVar 4) mNil)) (mC (.int 997))) mNil)))
 (mSet 4 (mBin fdivD (mVar 4) (mC (.int 997))))) mSkip)
noncomputable def B_law_draws_1 : DS → SRes :=
 (mSeq
 (mSet 4 (mCB absD (mCons (mCB int1D (mCons (mVar 3) mNil)) mNil)))
 (mSeq
 (mSet 2 (mBin modD (mCB int1D (mCons (mBin addD (mBin addD (mBin mulE (mVar 2) (mC (.int 48271))) (mVar 4)) (mC (.int 1))) mNil)) (mC (.int 2147483647))))
 (mSeq
 (mIfS (mTest (mBin ltD (mVar 4) (mBin powD (mC (.int 10)) (mC (.int 18))))) (mSeq
 (mDrop (mMeth 1 fAppend (mCons (mBin modD (mCB int1D (mCons (mVar 4) mNil)) (mC (.int 997))) mNil)))
 (mSeq
 (mDrop (mMeth 1 fAppend (mCons (mBin modD (mCB int1D (mCons (mVar 2) mNil)) (mC (.int 65521))) mNil)))
 (mSet 4 (mC (.int 0))))) mSkip)
 (mFor (mFast (mCons (mC (.int 60)) mNil) rng1) (tgN 5) B_law_draws_0))))
noncomputable def B_law_draws_2 : DS → SRes :=
 (mSeq
 (mSet 2 (mBin modD (mCB int1D (mCons (mBin addD (mBin mulE (mVar 2) (mC (.int 48271))) (mC (.int 69621))) mNil)) (mC (.int 2147483647))))
 (mDrop (mMeth 1 fAppend (mCons (mBin fdivD (mVar 2) (mC (.int 5))) mNil))))
noncomputable def M_law_draws : DS → SRes :=
 (mSeq
 (mSet 1 (mLst mNil))
 (mSeq
 (mSet 2 (mC (.int 11)))
 (mSeq
 (mFor (mIter (mVar 0)) (tgN 3) B_law_draws_1)
 (mSeq
 (mFor (mFast (mCons (mC (.int 700)) mNil) rng1) (tgN 5) B_law_draws_2)
 (mRet (mUn revD (mVar 1)))))))
noncomputable def F_law_draws : List D → FR := runF nn__law_draws.length M_law_draws
theorem ok_law_draws (T : Txt K mg base g fd ca cP) : FnOk P w K mg base (L2N.CX P w) 1 (g 30) (fd 30) ["script"] (spP g K 1 F_law_draws) := by
  refine fn_p (N := nn__law_draws) (lv := 0) (m := M_law_draws) T.f30 sc__law_draws fun cdv A outer s H E hr => ?_
  have nd : (nn__law_draws : List Str).Nodup := sc__law_draws.nd
  have hu := hr.units
  have hu5 := units65 hr
  have tk : L2N.Takes (cxOf (L2N.CX P w) P w K mg base nn__law_draws "_law_draws" (defScope (topS 30)) (g 30) cdv A outer s H E) (fun cls d _ H => E cls d H) := L2N.takes_of rfl rfl rfl rfl
  have po : PassesOwn (model P w) (cxOf (L2N.CX P w) P w K mg base nn__law_draws "_law_draws" (defScope (topS 30)) (g 30) cdv A outer s H E).A (cxOf (L2N.CX P w) P w K mg base nn__law_draws "_law_draws" (defScope (topS 30)) (g 30) cdv A outer s H E).env (cxOf (L2N.CX P w) P w K mg base nn__law_draws "_law_draws" (defScope (topS 30)) (g 30) cdv A outer s H E).xe := passes_of rfl
  exact (ds_cons
 (ds_set 1 nd (de_lst da_nil))
 (ds_cons
 (ds_set 2 nd de_int)
 (ds_cons
 (ds_for po rfl (di_seq (de_var (i := 0))) (dg_name 3 nd) (ds_cons
 (ds_set 4 nd (de_callBi callD_abs rfl T.z_abs bt_abs (da_cons (de_callTy callD_int rfl T.z_int bt_int (da_cons (de_var (i := 3)) da_nil)) da_nil)))
 (ds_cons
 (ds_set 2 nd (de_bin opD_mod (de_callTy callD_int rfl T.z_int bt_int (da_cons (de_bin opD_add (de_bin opD_add (de_bin opD_mulE (de_var (i := 2)) de_int) (de_var (i := 4))) de_int) da_nil)) de_int))
 (ds_cons
 (ds_if (dt_cmp (opD_lt hu) (de_var (i := 4)) (de_bin opD_pow de_int de_int)) (ds_cons
 (ds_expr (de_append 1 (da_cons (de_bin opD_mod (de_callTy callD_int rfl T.z_int bt_int (da_cons (de_var (i := 4)) da_nil)) de_int) da_nil)))
 (ds_cons
 (ds_expr (de_append 1 (da_cons (de_bin opD_mod (de_callTy callD_int rfl T.z_int bt_int (da_cons (de_var (i := 2)) da_nil)) de_int) da_nil)))
 (ds_one (ds_set 4 nd de_int)))) ds_nil)
 (ds_one (ds_for po rfl (di_range1 rfl T.z_range (da_cons de_int da_nil)) (dg_name 5 nd) (ds_one (ds_if (dt_cmp opD_gt (de_var (i := 4)) de_int) (ds_cons
 (ds_expr (de_append 1 (da_cons (de_bin opD_mod (de_callTy callD_int rfl T.z_int bt_int (da_cons (de_var (i := 4)) da_nil)) de_int) da_nil)))
 (ds_one (ds_set 4 nd (de_bin opD_fdiv (de_var (i := 4)) de_int)))) ds_nil))))))))
 (ds_cons
 (ds_for po rfl (di_range1 rfl T.z_range (da_cons de_int da_nil)) (dg_name 5 nd) (ds_cons
 (ds_set 2 nd (de_bin opD_mod (de_callTy callD_int rfl T.z_int bt_int (da_cons (de_bin opD_add (de_bin opD_mulE (de_var (i := 2)) de_int) de_int) da_nil)) de_int))
 (ds_one (ds_expr (de_append 1 (da_cons (de_bin opD_fdiv (de_var (i := 2)) de_int) da_nil))))))
 (ds_one (ds_ret (de_listRev rfl rfl T.z_list rfl T.z_reversed (de_var (i := 1)))))))))
abbrev nn__law_take : List Str := ["draws", "bound"]
theorem sc__law_take : FnScope nn__law_take ["draws", "bound"] (defScope (topS 31)) := ⟨rfl, rfl, rfl, by decide +kernel, rfl, by decide +kernel, by decide +kernel⟩
noncomputable def M_law_take : DS → SRes :=
 (mSeq
 (mIfS (mTest (mBin eqD (mCB lenD (mCons (mVar 0) mNil)) (mC (.int 0)))) (mRet (mC (.int 0))) mSkip)
 (mRet (mBin modD (mCB int1D (mCons (mMeth 0 fPop mNil) mNil)) (mVar 1))))
noncomputable def F_law_take : Cn → List D → FB := runB nn__law_take.length M_law_take
theorem ok_law_take (T : Txt K mg base g fd ca cP) : FnOk P w K mg base (L2N.CX P w) 1 (g 31) (fd 31) ["draws", "bound"] (spB g K 2 F_law_take) := by
  refine fn_b (N := nn__law_take) (lv := 0) (m := M_law_take) T.f31 sc__law_take fun cdv A outer s H E hr => ?_
  have nd : (nn__law_take : List Str).Nodup := sc__law_take.nd
  have hu := hr.units
  have hu5 := units65 hr
  have tk : L2N.Takes (cxOf (L2N.CX P w) P w K mg base nn__law_take "_law_take" (defScope (topS 31)) (g 31) cdv A outer s H E) (fun cls d _ H => E cls d H) := L2N.takes_of rfl rfl rfl rfl
  have po : PassesOwn (model P w) (cxOf (L2N.CX P w) P w K mg base nn__law_take "_law_take" (defScope (topS 31)) (g 31) cdv A outer s H E).A (cxOf (L2N.CX P w) P w K mg base nn__law_take "_law_take" (defScope (topS 31)) (g 31) cdv A outer s H E).env (cxOf (L2N.CX P w) P w K mg base nn__law_take "_law_take" (defScope (topS 31)) (g 31) cdv A outer s H E).xe := passes_of rfl
  exact (ds_cons
 (ds_if (dt_cmp (opD_eq hu) (de_callBi callD_len rfl T.z_len bt_len (da_cons (de_var (i := 0)) da_nil)) de_int) (ds_one (ds_ret de_int)) ds_nil)
 (ds_one (ds_ret (de_bin opD_mod (de_callTy callD_int rfl T.z_int bt_int (da_cons (de_pop 0) da_nil)) (de_var (i := 1))))))
abbrev nn__law_pick : List Str := ["draws", "some"]
theorem sc__law_pick : FnScope nn__law_pick ["draws", "some"] (defScope (topS 32)) := ⟨rfl, rfl, rfl, by decide +kernel, rfl, by decide +kernel, by decide +kernel⟩
noncomputable def M_law_pick : DS → SRes :=
 (mRet (mBin ixD (mVar 1) (mCallB 2 F_law_take 0 (mCons (mCB lenD (mCons (mVar 1) mNil)) mNil))))
noncomputable def F_law_pick : Cn → List D → FB := runB nn__law_pick.length M_law_pick
theorem ok_law_pick (T : Txt K mg base g fd ca cP) : FnOk P w K mg base (L2N.CX P w) 2 (g 32) (fd 32) ["draws", "some"] (spB g K 2 F_law_pick) := by
  refine fn_b (N := nn__law_pick) (lv := 1) (m := M_law_pick) T.f32 sc__law_pick fun cdv A outer s H E hr => ?_
  have nd : (nn__law_pick : List Str).Nodup := sc__law_pick.nd
  have hu := hr.units
  have hu5 := units65 hr
  have tk : L2N.Takes (cxOf (L2N.CX P w) P w K mg base nn__law_pick "_law_pick" (defScope (topS 32)) (g 32) cdv A outer s H E) (fun cls d _ H => E cls d H) := L2N.takes_of rfl rfl rfl rfl
  have po : PassesOwn (model P w) (cxOf (L2N.CX P w) P w K mg base nn__law_pick "_law_pick" (defScope (topS 32)) (g 32) cdv A outer s H E).A (cxOf (L2N.CX P w) P w K mg base nn__law_pick "_law_pick" (defScope (topS 32)) (g 32) cdv A outer s H E).env (cxOf (L2N.CX P w) P w K mg base nn__law_pick "_law_pick" (defScope (topS 32)) (g 32) cdv A outer s H E).xe := passes_of rfl
  exact (ds_one (ds_ret (de_ix (de_var (i := 1)) (de_callB 0 (ok_law_take T) tk (hr.mono (by decide)) rfl T.m31 T.f31.kp T.b31 (da_cons (de_callBi callD_len rfl T.z_len bt_len (da_cons (de_var (i := 1)) da_nil)) da_nil)))))
abbrev nn__law_point : List Str := ["draws", "most"]
theorem sc__law_point : FnScope nn__law_point ["draws", "most"] (defScope (topS 39)) := ⟨rfl, rfl, rfl, by decide +kernel, rfl, by decide +kernel, by decide +kernel⟩
noncomputable def M_law_point : DS → SRes :=
 (mSeq
 (mIfS (mTest (mBin eqD (mCallB 2 F_law_take 0 (mCons (mC (.int 25)) mNil)) (mC (.int 0)))) (mRet (mTup (mCons (mCallB 2 F_law_pick 0 (mCons (mLst (mCons (mUn negD (mC (.int 1000))) (mCons (mC (.int 1000)) (mCons (mC (.int 999)) (mCons (mC (.int 0)) mNil))))) mNil)) (mCons (mCallB 2 F_law_pick 0 (mCons (mLst (mCons (mUn negD (mC (.int 1000))) (mCons (mC (.int 1000)) (mCons (mC (.int 7)) mNil)))) mNil)) mNil)))) mSkip)
 (mRet (mTup (mCons (mBin subE (mCallB 2 F_law_take 0 (mCons (mBin addD (mBin mulE (mC (.int 2)) (mVar 1)) (mC (.int 1))) mNil)) (mVar 1)) (mCons (mBin subE (mCallB 2 F_law_take 0 (mCons (mBin addD (mBin mulE (mC (.int 2)) (mVar 1)) (mC (.int 1))) mNil)) (mVar 1)) mNil)))))
noncomputable def F_law_point : Cn → List D → FB := runB nn__law_point.length M_law_point
theorem ok_law_point (T : Txt K mg base g fd ca cP) : FnOk P w K mg base (L2N.CX P w) 3 (g 39) (fd 39) ["draws", "most"] (spB g K 2 F_law_point) := by
  refine fn_b (N := nn__law_point) (lv := 2) (m := M_law_point) T.f39 sc__law_point fun cdv A outer s H E hr => ?_
  have nd : (nn__law_point : List Str).Nodup := sc__law_point.nd
  have hu := hr.units
  have hu5 := units65 hr
  have tk : L2N.Takes (cxOf (L2N.CX P w) P w K mg base nn__law_point "_law_point" (defScope (topS 39)) (g 39) cdv A outer s H E) (fun cls d _ H => E cls d H) := L2N.takes_of rfl rfl rfl rfl
  have po : PassesOwn (model P w) (cxOf (L2N.CX P w) P w K mg base nn__law_point "_law_point" (defScope (topS 39)) (g 39) cdv A outer s H E).A (cxOf (L2N.CX P w) P w K mg base nn__law_point "_law_point" (defScope (topS 39)) (g 39) cdv A outer s H E).env (cxOf (L2N.CX P w) P w K mg base nn__law_point "_law_point" (defScope (topS 39)) (g 39) cdv A outer s H E).xe := passes_of rfl
  exact (ds_cons
 (ds_if (dt_cmp (opD_eq hu) (de_callB 0 (ok_law_take T) tk (hr.mono (by decide)) rfl T.m31 T.f31.kp T.b31 (da_cons de_int da_nil)) de_int) (ds_one (ds_ret (de_tup (da_cons (de_callB 0 (ok_law_pick T) tk (hr.mono (by decide)) rfl T.m32 T.f32.kp T.b32 (da_cons (de_lst (da_cons (de_un unD_neg de_int) (da_cons de_int (da_cons de_int (da_cons de_int da_nil))))) da_nil)) (da_cons (de_callB 0 (ok_law_pick T) tk (hr.mono (by decide)) rfl T.m32 T.f32.kp T.b32 (da_cons (de_lst (da_cons (de_un unD_neg de_int) (da_cons de_int (da_cons de_int da_nil)))) da_nil)) da_nil))))) ds_nil)
 (ds_one (ds_ret (de_tup (da_cons (de_bin opD_subE (de_callB 0 (ok_law_take T) tk (hr.mono (by decide)) rfl T.m31 T.f31.kp T.b31 (da_cons (de_bin opD_add (de_bin opD_mulE de_int (de_var (i := 1))) de_int) da_nil)) (de_var (i := 1))) (da_cons (de_bin opD_subE (de_callB 0 (ok_law_take T) tk (hr.mono (by decide)) rfl T.m31 T.f31.kp T.b31 (da_cons (de_bin opD_add (de_bin opD_mulE de_int (de_var (i := 1))) de_int) da_nil)) (de_var (i := 1))) da_nil))))))
abbrev nn__law_spots : List Str := ["draws", "many", "most", "k"]
theorem sc__law_spots : FnScope nn__law_spots ["draws", "many"] (defScope (topS 40)) := ⟨rfl, rfl, rfl, by decide +kernel, rfl, by decide +kernel, by decide +kernel⟩
noncomputable def C_law_spots_0 : DS → Res RV :=
 (mCallB 2 F_law_point 0 (mCons (mVar 2) mNil))
noncomputable def M_law_spots : DS → SRes :=
 (mSeq
 (mSet 2 (mCallB 2 F_law_pick 0 (mCons (mLst (mCons (mC (.int 2)) (mCons (mC (.int 3)) (mCons (mC (.int 6)) (mCons (mC (.int 20)) mNil))))) mNil)))
 (mRet (mCB tupleD (mCons (mSS3 (mLc (mFast (mCons (mVar 1) mNil) rng1) [3] (tgN 3) mYes C_law_spots_0)) mNil))))
noncomputable def F_law_spots : Cn → List D → FB := runB nn__law_spots.length M_law_spots
theorem ok_law_spots (T : Txt K mg base g fd ca cP) : FnOk P w K mg base (L2N.CX P w) 4 (g 40) (fd 40) ["draws", "many"] (spB g K 2 F_law_spots) := by
  refine fn_b (N := nn__law_spots) (lv := 3) (m := M_law_spots) T.f40 sc__law_spots fun cdv A outer s H E hr => ?_
  have nd : (nn__law_spots : List Str).Nodup := sc__law_spots.nd
  have hu := hr.units
  have hu5 := units65 hr
  have tk : L2N.Takes (cxOf (L2N.CX P w) P w K mg base nn__law_spots "_law_spots" (defScope (topS 40)) (g 40) cdv A outer s H E) (fun cls d _ H => E cls d H) := L2N.takes_of rfl rfl rfl rfl
  have po : PassesOwn (model P w) (cxOf (L2N.CX P w) P w K mg base nn__law_spots "_law_spots" (defScope (topS 40)) (g 40) cdv A outer s H E).A (cxOf (L2N.CX P w) P w K mg base nn__law_spots "_law_spots" (defScope (topS 40)) (g 40) cdv A outer s H E).env (cxOf (L2N.CX P w) P w K mg base nn__law_spots "_law_spots" (defScope (topS 40)) (g 40) cdv A outer s H E).xe := passes_of rfl
  exact (ds_cons
 (ds_set 2 nd (de_callB 0 (ok_law_pick T) tk (hr.mono (by decide)) rfl T.m32 T.f32.kp T.b32 (da_cons (de_lst (da_cons de_int (da_cons de_int (da_cons de_int (da_cons de_int da_nil))))) da_nil)))
 (ds_one (ds_ret (de_callTy callD_tuple rfl T.z_tuple bt_tuple (da_cons (de_sset3 rfl hu5 rfl T.z_sorted rfl T.z_set (de_lc (own := [("k", 3)]) rfl nd (di_range1 rfl T.z_range (da_cons (de_var (i := 1)) da_nil)) (blkOk_by (N := nn__law_spots) (sc := defScope (topS 40)) (by decide +kernel)) (fun _ _ _ _ _ => (dg_name 3 nd)) (fun _ _ _ _ _ => dts_nil) (fun _ _ _ _ _ => (de_callB 0 (ok_law_point T) takesF (hr.mono (by decide)) rfl T.m39 T.f39.kp T.b39 (da_cons (de_var (i := 2)) da_nil))))) da_nil)))))
abbrev nn__law_mixed : List Str := ["draws", "some", "left", "found", "k"]
theorem sc__law_mixed : FnScope nn__law_mixed ["draws", "some"] (defScope (topS 35)) := ⟨rfl, rfl, rfl, by decide +kernel, rfl, by decide +kernel, by decide +kernel⟩
noncomputable def B_law_mixed_0 : DS → SRes :=
 (mDrop (mMeth 3 fAppend (mCons (mMeth 2 fPopAt (mCons (mCallB 2 F_law_take 0 (mCons (mCB lenD (mCons (mVar 2) mNil)) mNil)) mNil)) mNil)))
noncomputable def M_law_mixed : DS → SRes :=
 (mSeq
 (mSet 2 (mCB listD (mCons (mVar 1) mNil)))
 (mSeq
 (mSet 3 (mLst mNil))
 (mSeq
 (mFor (mFast (mCons (mCB lenD (mCons (mVar 1) mNil)) mNil) rng1) (tgN 4) B_law_mixed_0)
 (mRet (mVar 3)))))
noncomputable def F_law_mixed : Cn → List D → FB := runB nn__law_mixed.length M_law_mixed
theorem ok_law_mixed (T : Txt K mg base g fd ca cP) : FnOk P w K mg base (L2N.CX P w) 2 (g 35) (fd 35) ["draws", "some"] (spB g K 2 F_law_mixed) := by
  refine fn_b (N := nn__law_mixed) (lv := 1) (m := M_law_mixed) T.f35 sc__law_mixed fun cdv A outer s H E hr => ?_
  have nd : (nn__law_mixed : List Str).Nodup := sc__law_mixed.nd
  have hu := hr.units
  have hu5 := units65 hr
  have tk : L2N.Takes (cxOf (L2N.CX P w) P w K mg base nn__law_mixed "_law_mixed" (defScope (topS 35)) (g 35) cdv A outer s H E) (fun cls d _ H => E cls d H) := L2N.takes_of rfl rfl rfl rfl
  have po : PassesOwn (model P w) (cxOf (L2N.CX P w) P w K mg base nn__law_mixed "_law_mixed" (defScope (topS 35)) (g 35) cdv A outer s H E).A (cxOf (L2N.CX P w) P w K mg base nn__law_mixed "_law_mixed" (defScope (topS 35)) (g 35) cdv A outer s H E).env (cxOf (L2N.CX P w) P w K mg base nn__law_mixed "_law_mixed" (defScope (topS 35)) (g 35) cdv A outer s H E).xe := passes_of rfl
  exact (ds_cons
 (ds_set 2 nd (de_callTy callD_list rfl T.z_list bt_list (da_cons (de_var (i := 1)) da_nil)))
 (ds_cons
 (ds_set 3 nd (de_lst da_nil))
 (ds_cons
 (ds_for po rfl (di_range1 rfl T.z_range (da_cons (de_callBi callD_len rfl T.z_len bt_len (da_cons (de_var (i := 1)) da_nil)) da_nil)) (dg_name 4 nd) (ds_one (ds_expr (de_append 3 (da_cons (de_popAt 2 (da_cons (de_callB 0 (ok_law_take T) tk (hr.mono (by decide)) rfl T.m31 T.f31.kp T.b31 (da_cons (de_callBi callD_len rfl T.z_len bt_len (da_cons (de_var (i := 2)) da_nil)) da_nil)) da_nil)) da_nil)))))
 (ds_one (ds_ret (de_var (i := 3)))))))
abbrev nn__law_same : List Str := ["actual", "due", "k", "key"]
theorem sc__law_same : FnScope nn__law_same ["actual", "due"] (defScope (topS 33)) := ⟨rfl, rfl, rfl, by decide +kernel, rfl, by decide +kernel, by decide +kernel⟩
noncomputable def B_law_same_0 (Frec : List D → FR) : DS → SRes :=
 (mIfS (mNotT (mTest (mCall 2 Frec (mCons (mBin ixD (mVar 0) (mVar 2)) (mCons (mBin ixD (mVar 1) (mVar 2)) mNil))))) (mRet (mC (.bl false))) mSkip)
noncomputable def M_law_same (Frec : List D → FR) : DS → SRes :=
 (mSeq
 (mIfS (mTest (mIsNone (mVar 1))) (mRet (mIsNone (mVar 0))) mSkip)
 (mSeq
 (mIfS (mOrT (mTest (mIsi "tuple" (mVar 1))) (mTest (mIsi "list" (mVar 1)))) (mSeq
 (mIfS (mOrT (mTest (mBin neD (mIsi "tuple" (mVar 1)) (mIsi "tuple" (mVar 0)))) (mTest (mBin neD (mIsi "list" (mVar 1)) (mIsi "list" (mVar 0))))) (mRet (mC (.bl false))) mSkip)
 (mSeq
 (mIfS (mTest (mBin neD (mCB lenD (mCons (mVar 0) mNil)) (mCB lenD (mCons (mVar 1) mNil)))) (mRet (mC (.bl false))) mSkip)
 (mSeq
 (mFor (mFast (mCons (mCB lenD (mCons (mVar 1) mNil)) mNil) rng1) (tgN 2) (B_law_same_0 Frec))
 (mRet (mC (.bl true)))))) mSkip)
 (mSeq
 (mIfS (mTest (mIsi "dict" (mVar 1))) mNever mSkip)
 (mSeq
 (mIfS (mTest (mBin neD (mIsi "bool" (mVar 1)) (mIsi "bool" (mVar 0)))) (mRet (mC (.bl false))) mSkip)
 (mSeq
 (mIfS (mOrT (mTest (mBin neD (mIsi "int" (mVar 1)) (mIsi "int" (mVar 0)))) (mTest (mBin neD (mIsi "str" (mVar 1)) (mIsi "str" (mVar 0))))) (mRet (mC (.bl false))) mSkip)
 (mRet (mBin eqD (mVar 0) (mVar 1))))))))
noncomputable def F_law_same : Nat → List D → FR
  | 0 => runF nn__law_same.length mNever
  | d + 1 => runF nn__law_same.length (M_law_same (F_law_same d))
theorem ok_law_same (T : Txt K mg base g fd ca cP) : ∀ d, FnOk P w K mg base (L2N.CX P w) (1 + d) (g 33) (fd 33) ["actual", "due"] (spP g K 2 (F_law_same d)) := by
  intro d
  induction d with
  | zero => exact fn_p (N := nn__law_same) (lv := 0) T.f33 sc__law_same fun cdv A outer s H E hr => dss_never
  | succ d ih =>
  show FnOk P w K mg base (L2N.CX P w) (1 + d + 1) (g 33) (fd 33) ["actual", "due"] (spP g K 2 (runF nn__law_same.length (M_law_same (F_law_same d))))
  generalize F_law_same d = Frec at ih ⊢
  refine fn_p (N := nn__law_same) (lv := 1 + d) (m := M_law_same Frec) T.f33 sc__law_same fun cdv A outer s H E hr => ?_
  have nd : (nn__law_same : List Str).Nodup := sc__law_same.nd
  have hu := hr.units
  have hu5 := units65 hr
  have tk : L2N.Takes (cxOf (L2N.CX P w) P w K mg base nn__law_same "_law_same" (defScope (topS 33)) (g 33) cdv A outer s H E) (fun cls d _ H => E cls d H) := L2N.takes_of rfl rfl rfl rfl
  have po : PassesOwn (model P w) (cxOf (L2N.CX P w) P w K mg base nn__law_same "_law_same" (defScope (topS 33)) (g 33) cdv A outer s H E).A (cxOf (L2N.CX P w) P w K mg base nn__law_same "_law_same" (defScope (topS 33)) (g 33) cdv A outer s H E).env (cxOf (L2N.CX P w) P w K mg base nn__law_same "_law_same" (defScope (topS 33)) (g 33) cdv A outer s H E).xe := passes_of rfl
  exact (ds_cons
 (ds_if (dt_isNone (de_var (i := 1))) (ds_one (ds_ret (de_isNone (de_var (i := 0))))) ds_nil)
 (ds_cons
 (ds_if (dt_w (dw_or (dt_val (de_isi "tuple" rfl T.z_isinstance rfl T.z_tuple bt_tuple (de_var (i := 1)))) (dw_or1 (dt_val (de_isi "list" rfl T.z_isinstance rfl T.z_list bt_list (de_var (i := 1))))))) (ds_cons
 (ds_if (dt_w (dw_or (dt_cmp (opD_ne hu) (de_isi "tuple" rfl T.z_isinstance rfl T.z_tuple bt_tuple (de_var (i := 1))) (de_isi "tuple" rfl T.z_isinstance rfl T.z_tuple bt_tuple (de_var (i := 0)))) (dw_or1 (dt_cmp (opD_ne hu) (de_isi "list" rfl T.z_isinstance rfl T.z_list bt_list (de_var (i := 1))) (de_isi "list" rfl T.z_isinstance rfl T.z_list bt_list (de_var (i := 0))))))) (ds_one (ds_ret de_bl)) ds_nil)
 (ds_cons
 (ds_if (dt_cmp (opD_ne hu) (de_callBi callD_len rfl T.z_len bt_len (da_cons (de_var (i := 0)) da_nil)) (de_callBi callD_len rfl T.z_len bt_len (da_cons (de_var (i := 1)) da_nil))) (ds_one (ds_ret de_bl)) ds_nil)
 (ds_cons
 (ds_for po rfl (di_range1 rfl T.z_range (da_cons (de_callBi callD_len rfl T.z_len bt_len (da_cons (de_var (i := 1)) da_nil)) da_nil)) (dg_name 2 nd) (ds_one (ds_if (dt_not (dt_val (de_call ih tk (hr.mono (Nat.le_refl _)) rfl T.m33 T.f33.kp T.b33 (da_cons (de_ix (de_var (i := 0)) (de_var (i := 2))) (da_cons (de_ix (de_var (i := 1)) (de_var (i := 2))) da_nil))))) (ds_one (ds_ret de_bl)) ds_nil)))
 (ds_one (ds_ret de_bl))))) ds_nil)
 (ds_cons
 (ds_if (dt_val (de_isi "dict" rfl T.z_isinstance rfl T.z_dict bt_dict (de_var (i := 1)))) dss_never ds_nil)
 (ds_cons
 (ds_if (dt_cmp (opD_ne hu) (de_isi "bool" rfl T.z_isinstance rfl T.z_bool bt_bool (de_var (i := 1))) (de_isi "bool" rfl T.z_isinstance rfl T.z_bool bt_bool (de_var (i := 0)))) (ds_one (ds_ret de_bl)) ds_nil)
 (ds_cons
 (ds_if (dt_w (dw_or (dt_cmp (opD_ne hu) (de_isi "int" rfl T.z_isinstance rfl T.z_int bt_int (de_var (i := 1))) (de_isi "int" rfl T.z_isinstance rfl T.z_int bt_int (de_var (i := 0)))) (dw_or1 (dt_cmp (opD_ne hu) (de_isi "str" rfl T.z_isinstance rfl T.z_str bt_str (de_var (i := 1))) (de_isi "str" rfl T.z_isinstance rfl T.z_str bt_str (de_var (i := 0))))))) (ds_one (ds_ret de_bl)) ds_nil)
 (ds_one (ds_ret (de_cmp (opD_eq hu) (de_var (i := 0)) (de_var (i := 1))))))))))
abbrev nn_are_ascending : List Str := ["values", "one", "other"]
theorem sc_are_ascending : FnScope nn_are_ascending ["values"] (defScope (topS 9)) := ⟨rfl, rfl, rfl, by decide +kernel, rfl, by decide +kernel, by decide +kernel⟩
noncomputable def C_are_ascending_0 : DS → Res RV :=
 (mBin ltD (mVar 1) (mVar 2))
noncomputable def M_are_ascending : DS → SRes :=
 (mRet (mCB allD (mCons (mLc (mFast (mCons (mVar 0) (mCons (mSl (mVar 0) (mSome (mC (.int 1))) mNone) mNil)) zipD) [1, 2] (tgT 2 (tgCons (tgN 1) (tgCons (tgN 2) tgNil))) mYes C_are_ascending_0) mNil)))
noncomputable def F_are_ascending : List D → FR := runF nn_are_ascending.length M_are_ascending
theorem ok_are_ascending (T : Txt K mg base g fd ca cP) : FnOk P w K mg base (L2N.CX P w) 1 (g 9) (fd 9) ["values"] (spP g K 1 F_are_ascending) := by
  refine fn_p (N := nn_are_ascending) (lv := 0) (m := M_are_ascending) T.f9 sc_are_ascending fun cdv A outer s H E hr => ?_
  have nd : (nn_are_ascending : List Str).Nodup := sc_are_ascending.nd
  have hu := hr.units
  have hu5 := units65 hr
  have tk : L2N.Takes (cxOf (L2N.CX P w) P w K mg base nn_are_ascending "are_ascending" (defScope (topS 9)) (g 9) cdv A outer s H E) (fun cls d _ H => E cls d H) := L2N.takes_of rfl rfl rfl rfl
  have po : PassesOwn (model P w) (cxOf (L2N.CX P w) P w K mg base nn_are_ascending "are_ascending" (defScope (topS 9)) (g 9) cdv A outer s H E).A (cxOf (L2N.CX P w) P w K mg base nn_are_ascending "are_ascending" (defScope (topS 9)) (g 9) cdv A outer s H E).env (cxOf (L2N.CX P w) P w K mg base nn_are_ascending "are_ascending" (defScope (topS 9)) (g 9) cdv A outer s H E).xe := passes_of rfl
  exact (ds_one (ds_ret (de_callBi (callD_all rfl) rfl T.z_all bt_all (da_cons (de_lc (own := [("one", 1), ("other", 2)]) rfl nd (di_zip rfl T.z_zip (da_cons (de_var (i := 0)) (da_cons (de_slice (de_var (i := 0)) (do_some de_int) do_none) da_nil))) (blkOk_by (N := nn_are_ascending) (sc := defScope (topS 9)) (by decide +kernel)) (fun _ _ _ _ _ => (dg_tup rfl (dgs_cons (dg_name 1 nd) (dgs_cons (dg_name 2 nd) dgs_nil)))) (fun _ _ _ _ _ => dts_nil) (fun _ _ _ _ _ => (de_cmp (opD_lt hu) (de_var (i := 1)) (de_var (i := 2))))) da_nil))))
abbrev nn_is_integer : List Str := ["value"]
theorem sc_is_integer : FnScope nn_is_integer ["value"] (defScope (topS 7)) := ⟨rfl, rfl, rfl, by decide +kernel, rfl, by decide +kernel, by decide +kernel⟩
noncomputable def M_is_integer : DS → SRes :=
 (mRet (mAnd (mIsi "int" (mVar 0)) (mNot (mIsi "bool" (mVar 0)))))
noncomputable def F_is_integer : List D → FR := runF nn_is_integer.length M_is_integer
theorem ok_is_integer (T : Txt K mg base g fd ca cP) : FnOk P w K mg base (L2N.CX P w) 1 (g 7) (fd 7) ["value"] (spP g K 1 F_is_integer) := by
  refine fn_p (N := nn_is_integer) (lv := 0) (m := M_is_integer) T.f7 sc_is_integer fun cdv A outer s H E hr => ?_
  have nd : (nn_is_integer : List Str).Nodup := sc_is_integer.nd
  have hu := hr.units
  have hu5 := units65 hr
  have tk : L2N.Takes (cxOf (L2N.CX P w) P w K mg base nn_is_integer "is_integer" (defScope (topS 7)) (g 7) cdv A outer s H E) (fun cls d _ H => E cls d H) := L2N.takes_of rfl rfl rfl rfl
  have po : PassesOwn (model P w) (cxOf (L2N.CX P w) P w K mg base nn_is_integer "is_integer" (defScope (topS 7)) (g 7) cdv A outer s H E).A (cxOf (L2N.CX P w) P w K mg base nn_is_integer "is_integer" (defScope (topS 7)) (g 7) cdv A outer s H E).env (cxOf (L2N.CX P w) P w K mg base nn_is_integer "is_integer" (defScope (topS 7)) (g 7) cdv A outer s H E).xe := passes_of rfl
  exact (ds_one (ds_ret (de_and (de_isi "int" rfl T.z_isinstance rfl T.z_int bt_int (de_var (i := 0))) (de_one (de_not (de_isi "bool" rfl T.z_isinstance rfl T.z_bool bt_bool (de_var (i := 0))))))))
abbrev nn_is_within : List Str := ["value", "low", "high"]
theorem sc_is_within : FnScope nn_is_within ["value", "low", "high"] (defScope (topS 8)) := ⟨rfl, rfl, rfl, by decide +kernel, rfl, by decide +kernel, by decide +kernel⟩
noncomputable def M_is_within : DS → SRes :=
 (mRet (mAnd (mCall 1 F_is_integer (mCons (mVar 0) mNil)) (mChain (fun i j => decide (i ≤ j)) (fun i j => decide (i ≤ j)) (mVar 1) (mVar 0) (mVar 2))))
noncomputable def F_is_within : List D → FR := runF nn_is_within.length M_is_within
theorem ok_is_within (T : Txt K mg base g fd ca cP) : FnOk P w K mg base (L2N.CX P w) 2 (g 8) (fd 8) ["value", "low", "high"] (spP g K 3 F_is_within) := by
  refine fn_p (N := nn_is_within) (lv := 1) (m := M_is_within) T.f8 sc_is_within fun cdv A outer s H E hr => ?_
  have nd : (nn_is_within : List Str).Nodup := sc_is_within.nd
  have hu := hr.units
  have hu5 := units65 hr
  have tk : L2N.Takes (cxOf (L2N.CX P w) P w K mg base nn_is_within "is_within" (defScope (topS 8)) (g 8) cdv A outer s H E) (fun cls d _ H => E cls d H) := L2N.takes_of rfl rfl rfl rfl
  have po : PassesOwn (model P w) (cxOf (L2N.CX P w) P w K mg base nn_is_within "is_within" (defScope (topS 8)) (g 8) cdv A outer s H E).A (cxOf (L2N.CX P w) P w K mg base nn_is_within "is_within" (defScope (topS 8)) (g 8) cdv A outer s H E).env (cxOf (L2N.CX P w) P w K mg base nn_is_within "is_within" (defScope (topS 8)) (g 8) cdv A outer s H E).xe := passes_of rfl
  exact (ds_one (ds_ret (de_and (de_call (ok_is_integer T) tk (hr.mono (by decide)) rfl T.m7 T.f7.kp T.b7 (da_cons (de_var (i := 0)) da_nil)) (de_one (de_chain op_le op_le (de_var (i := 1)) (de_var (i := 0)) (de_var (i := 2)))))))
abbrev nn_is_point : List Str := ["value", "one"]
theorem sc_is_point : FnScope nn_is_point ["value"] (defScope (topS 16)) := ⟨rfl, rfl, rfl, by decide +kernel, rfl, by decide +kernel, by decide +kernel⟩
noncomputable def C_is_point_0 : DS → Res RV :=
 (mCall 3 F_is_within (mCons (mVar 1) (mCons (mUn negD (mC (.int 1000))) (mCons (mC (.int 1000)) mNil))))
noncomputable def M_is_point : DS → SRes :=
 (mSeq
 (mIfS (mOrT (mNotT (mTest (mIsi "tuple" (mVar 0)))) (mTest (mBin neD (mCB lenD (mCons (mVar 0) mNil)) (mC (.int 2))))) (mRet (mC (.bl false))) mSkip)
 (mRet (mCB allD (mCons (mLc (mIter (mVar 0)) [1] (tgN 1) mYes C_is_point_0) mNil))))
noncomputable def F_is_point : List D → FR := runF nn_is_point.length M_is_point
theorem ok_is_point (T : Txt K mg base g fd ca cP) : FnOk P w K mg base (L2N.CX P w) 3 (g 16) (fd 16) ["value"] (spP g K 1 F_is_point) := by
  refine fn_p (N := nn_is_point) (lv := 2) (m := M_is_point) T.f16 sc_is_point fun cdv A outer s H E hr => ?_
  have nd : (nn_is_point : List Str).Nodup := sc_is_point.nd
  have hu := hr.units
  have hu5 := units65 hr
  have tk : L2N.Takes (cxOf (L2N.CX P w) P w K mg base nn_is_point "is_point" (defScope (topS 16)) (g 16) cdv A outer s H E) (fun cls d _ H => E cls d H) := L2N.takes_of rfl rfl rfl rfl
  have po : PassesOwn (model P w) (cxOf (L2N.CX P w) P w K mg base nn_is_point "is_point" (defScope (topS 16)) (g 16) cdv A outer s H E).A (cxOf (L2N.CX P w) P w K mg base nn_is_point "is_point" (defScope (topS 16)) (g 16) cdv A outer s H E).env (cxOf (L2N.CX P w) P w K mg base nn_is_point "is_point" (defScope (topS 16)) (g 16) cdv A outer s H E).xe := passes_of rfl
  exact (ds_cons
 (ds_if (dt_w (dw_or (dt_not (dt_val (de_isi "tuple" rfl T.z_isinstance rfl T.z_tuple bt_tuple (de_var (i := 0))))) (dw_or1 (dt_cmp (opD_ne hu) (de_callBi callD_len rfl T.z_len bt_len (da_cons (de_var (i := 0)) da_nil)) de_int)))) (ds_one (ds_ret de_bl)) ds_nil)
 (ds_one (ds_ret (de_callBi (callD_all rfl) rfl T.z_all bt_all (da_cons (de_lc (own := [("one", 1)]) rfl nd (di_seq (de_var (i := 0))) (blkOk_by (N := nn_is_point) (sc := defScope (topS 16)) (by decide +kernel)) (fun _ _ _ _ _ => (dg_name 1 nd)) (fun _ _ _ _ _ => dts_nil) (fun _ _ _ _ _ => (de_call (ok_is_within T) takesF (hr.mono (by decide)) rfl T.m8 T.f8.kp T.b8 (da_cons (de_var (i := 1)) (da_cons (de_un unD_neg (de_gint T.n_FARTHEST rfl)) (da_cons (de_gint T.n_FARTHEST rfl) da_nil)))))) da_nil)))))
abbrev nn_are_spots : List Str := ["value", "point"]
theorem sc_are_spots : FnScope nn_are_spots ["value"] (defScope (topS 17)) := ⟨rfl, rfl, rfl, by decide +kernel, rfl, by decide +kernel, by decide +kernel⟩
noncomputable def C_are_spots_0 : DS → Res RV :=
 (mCall 1 F_is_point (mCons (mVar 1) mNil))
noncomputable def M_are_spots : DS → SRes :=
 (mSeq
 (mIfS (mOrT (mNotT (mTest (mIsi "tuple" (mVar 0)))) (mOrT (mTest (mBin gtD (mCB lenD (mCons (mVar 0) mNil)) (mC (.int 60)))) (mNotT (mTest (mCB allD (mCons (mLc (mIter (mVar 0)) [1] (tgN 1) mYes C_are_spots_0) mNil)))))) (mRet (mC (.bl false))) mSkip)
 (mRet (mCall 1 F_are_ascending (mCons (mVar 0) mNil))))
noncomputable def F_are_spots : List D → FR := runF nn_are_spots.length M_are_spots
theorem ok_are_spots (T : Txt K mg base g fd ca cP) : FnOk P w K mg base (L2N.CX P w) 4 (g 17) (fd 17) ["value"] (spP g K 1 F_are_spots) := by
  refine fn_p (N := nn_are_spots) (lv := 3) (m := M_are_spots) T.f17 sc_are_spots fun cdv A outer s H E hr => ?_
  have nd : (nn_are_spots : List Str).Nodup := sc_are_spots.nd
  have hu := hr.units
  have hu5 := units65 hr
  have tk : L2N.Takes (cxOf (L2N.CX P w) P w K mg base nn_are_spots "are_spots" (defScope (topS 17)) (g 17) cdv A outer s H E) (fun cls d _ H => E cls d H) := L2N.takes_of rfl rfl rfl rfl
  have po : PassesOwn (model P w) (cxOf (L2N.CX P w) P w K mg base nn_are_spots "are_spots" (defScope (topS 17)) (g 17) cdv A outer s H E).A (cxOf (L2N.CX P w) P w K mg base nn_are_spots "are_spots" (defScope (topS 17)) (g 17) cdv A outer s H E).env (cxOf (L2N.CX P w) P w K mg base nn_are_spots "are_spots" (defScope (topS 17)) (g 17) cdv A outer s H E).xe := passes_of rfl
  exact (ds_cons
 (ds_if (dt_w (dw_or (dt_not (dt_val (de_isi "tuple" rfl T.z_isinstance rfl T.z_tuple bt_tuple (de_var (i := 0))))) (dw_or (dt_cmp opD_gt (de_callBi callD_len rfl T.z_len bt_len (da_cons (de_var (i := 0)) da_nil)) (de_gint T.n_MOST_SPOTS rfl)) (dw_or1 (dt_not (dt_val (de_callBi (callD_all rfl) rfl T.z_all bt_all (da_cons (de_lc (own := [("point", 1)]) rfl nd (di_seq (de_var (i := 0))) (blkOk_by (N := nn_are_spots) (sc := defScope (topS 17)) (by decide +kernel)) (fun _ _ _ _ _ => (dg_name 1 nd)) (fun _ _ _ _ _ => dts_nil) (fun _ _ _ _ _ => (de_call (ok_is_point T) takesF (hr.mono (by decide)) rfl T.m16 T.f16.kp T.b16 (da_cons (de_var (i := 1)) da_nil)))) da_nil)))))))) (ds_one (ds_ret de_bl)) ds_nil)
 (ds_one (ds_ret (de_call (ok_are_ascending T) tk (hr.mono (by decide)) rfl T.m9 T.f9.kp T.b9 (da_cons (de_var (i := 0)) da_nil)))))
abbrev nn_check_spots : List Str := ["spots"]
theorem sc_check_spots : FnScope nn_check_spots ["spots"] (defScope (topS 20)) := ⟨rfl, rfl, rfl, by decide +kernel, rfl, by decide +kernel, by decide +kernel⟩
noncomputable def M_check_spots : DS → SRes :=
 (mIfS (mNotT (mTest (mCall 1 F_are_spots (mCons (mVar 0) mNil)))) (mRaise 2) mSkip)
noncomputable def F_check_spots : List D → FR := runF nn_check_spots.length M_check_spots
theorem ok_check_spots (T : Txt K mg base g fd ca cP) : FnOk P w K mg base (L2N.CX P w) 5 (g 20) (fd 20) ["spots"] (spP g K 1 F_check_spots) := by
  refine fn_p (N := nn_check_spots) (lv := 4) (m := M_check_spots) T.f20 sc_check_spots fun cdv A outer s H E hr => ?_
  have nd : (nn_check_spots : List Str).Nodup := sc_check_spots.nd
  have hu := hr.units
  have hu5 := units65 hr
  have tk : L2N.Takes (cxOf (L2N.CX P w) P w K mg base nn_check_spots "check_spots" (defScope (topS 20)) (g 20) cdv A outer s H E) (fun cls d _ H => E cls d H) := L2N.takes_of rfl rfl rfl rfl
  have po : PassesOwn (model P w) (cxOf (L2N.CX P w) P w K mg base nn_check_spots "check_spots" (defScope (topS 20)) (g 20) cdv A outer s H E).A (cxOf (L2N.CX P w) P w K mg base nn_check_spots "check_spots" (defScope (topS 20)) (g 20) cdv A outer s H E).env (cxOf (L2N.CX P w) P w K mg base nn_check_spots "check_spots" (defScope (topS 20)) (g 20) cdv A outer s H E).xe := passes_of rfl
  exact (ds_one (ds_if (dt_not (dt_val (de_call (ok_are_spots T) tk (hr.mono (by decide)) rfl T.m17 T.f17.kp T.b17 (da_cons (de_var (i := 0)) da_nil)))) (ds_one (ds_raise rfl tk PySem.F.excBase_ValueError T.x2 T.m2 T.c2 (raises_own T.s2 T.t2) rfl)) ds_nil))
abbrev nn_turned : List Str := ["a", "b", "c"]
theorem sc_turned : FnScope nn_turned ["a", "b", "c"] (defScope (topS 22)) := ⟨rfl, rfl, rfl, by decide +kernel, rfl, by decide +kernel, by decide +kernel⟩
noncomputable def M_turned : DS → SRes :=
 (mRet (mBin subE (mBin mulE (mBin subE (mBin ixD (mVar 1) (mC (.int 0))) (mBin ixD (mVar 0) (mC (.int 0)))) (mBin subE (mBin ixD (mVar 2) (mC (.int 1))) (mBin ixD (mVar 0) (mC (.int 1))))) (mBin mulE (mBin subE (mBin ixD (mVar 1) (mC (.int 1))) (mBin ixD (mVar 0) (mC (.int 1)))) (mBin subE (mBin ixD (mVar 2) (mC (.int 0))) (mBin ixD (mVar 0) (mC (.int 0)))))))
noncomputable def F_turned : List D → FR := runF nn_turned.length M_turned
theorem ok_turned (T : Txt K mg base g fd ca cP) : FnOk P w K mg base (L2N.CX P w) 1 (g 22) (fd 22) ["a", "b", "c"] (spP g K 3 F_turned) := by
  refine fn_p (N := nn_turned) (lv := 0) (m := M_turned) T.f22 sc_turned fun cdv A outer s H E hr => ?_
  have nd : (nn_turned : List Str).Nodup := sc_turned.nd
  have hu := hr.units
  have hu5 := units65 hr
  have tk : L2N.Takes (cxOf (L2N.CX P w) P w K mg base nn_turned "turned" (defScope (topS 22)) (g 22) cdv A outer s H E) (fun cls d _ H => E cls d H) := L2N.takes_of rfl rfl rfl rfl
  have po : PassesOwn (model P w) (cxOf (L2N.CX P w) P w K mg base nn_turned "turned" (defScope (topS 22)) (g 22) cdv A outer s H E).A (cxOf (L2N.CX P w) P w K mg base nn_turned "turned" (defScope (topS 22)) (g 22) cdv A outer s H E).env (cxOf (L2N.CX P w) P w K mg base nn_turned "turned" (defScope (topS 22)) (g 22) cdv A outer s H E).xe := passes_of rfl
  exact (ds_one (ds_ret (de_bin opD_subE (de_bin opD_mulE (de_bin opD_subE (de_ix (de_var (i := 1)) de_int) (de_ix (de_var (i := 0)) de_int)) (de_bin opD_subE (de_ix (de_var (i := 2)) de_int) (de_ix (de_var (i := 0)) de_int))) (de_bin opD_mulE (de_bin opD_subE (de_ix (de_var (i := 1)) de_int) (de_ix (de_var (i := 0)) de_int)) (de_bin opD_subE (de_ix (de_var (i := 2)) de_int) (de_ix (de_var (i := 0)) de_int))))))
abbrev nn_in_line : List Str := ["spots", "found", "at", "a", "place", "b", "c"]
theorem sc_in_line : FnScope nn_in_line ["spots"] (defScope (topS 28)) := ⟨rfl, rfl, rfl, by decide +kernel, rfl, by decide +kernel, by decide +kernel⟩
noncomputable def C_in_line_0 : DS → Res RV :=
 (mTup (mCons (mVar 3) (mCons (mVar 5) (mCons (mVar 6) mNil))))
noncomputable def Q_in_line_0 : DS → Res Bool :=
 (mTest (mBin eqD (mCall 3 F_turned (mCons (mVar 3) (mCons (mVar 5) (mCons (mVar 6) mNil)))) (mC (.int 0))))
noncomputable def B_in_line_0 : DS → SRes :=
 (mSeq
 (mSet 5 (mBin ixD (mVar 0) (mVar 4)))
 (mDrop (mMeth 1 fExtend (mCons (mLc (mIter (mSl (mVar 0) (mSome (mBin addD (mVar 4) (mC (.int 1)))) mNone)) [6] (tgN 6) Q_in_line_0 C_in_line_0) mNil))))
noncomputable def B_in_line_1 : DS → SRes :=
 (mFor (mFast (mCons (mBin addD (mVar 2) (mC (.int 1))) (mCons (mCB lenD (mCons (mVar 0) mNil)) mNil)) rng2) (tgN 4) B_in_line_0)
noncomputable def M_in_line : DS → SRes :=
 (mSeq
 (mDrop (mCall 1 F_check_spots (mCons (mVar 0) mNil)))
 (mSeq
 (mSet 1 (mLst mNil))
 (mSeq
 (mFor (mFast (mCons (mVar 0) mNil) enumE) (tgT 2 (tgCons (tgN 2) (tgCons (tgN 3) tgNil))) B_in_line_1)
 (mRet (mVar 1)))))
noncomputable def F_in_line : List D → FR := runF nn_in_line.length M_in_line
theorem ok_in_line (T : Txt K mg base g fd ca cP) : FnOk P w K mg base (L2N.CX P w) 6 (g 28) (fd 28) ["spots"] (spP g K 1 F_in_line) := by
  refine fn_p (N := nn_in_line) (lv := 5) (m := M_in_line) T.f28 sc_in_line fun cdv A outer s H E hr => ?_
  have nd : (nn_in_line : List Str).Nodup := sc_in_line.nd
  have hu := hr.units
  have hu5 := units65 hr
  have tk : L2N.Takes (cxOf (L2N.CX P w) P w K mg base nn_in_line "in_line" (defScope (topS 28)) (g 28) cdv A outer s H E) (fun cls d _ H => E cls d H) := L2N.takes_of rfl rfl rfl rfl
  have po : PassesOwn (model P w) (cxOf (L2N.CX P w) P w K mg base nn_in_line "in_line" (defScope (topS 28)) (g 28) cdv A outer s H E).A (cxOf (L2N.CX P w) P w K mg base nn_in_line "in_line" (defScope (topS 28)) (g 28) cdv A outer s H E).env (cxOf (L2N.CX P w) P w K mg base nn_in_line "in_line" (defScope (topS 28)) (g 28) cdv A outer s H E).xe := passes_of rfl
  exact (ds_cons
 (ds_expr (de_call (ok_check_spots T) tk (hr.mono (by decide)) rfl T.m20 T.f20.kp T.b20 (da_cons (de_var (i := 0)) da_nil)))
 (ds_cons
 (ds_set 1 nd (de_lst da_nil))
 (ds_cons
 (ds_for po rfl (di_enumE rfl T.z_enumerate (da_cons (de_var (i := 0)) da_nil)) (dg_tup rfl (dgs_cons (dg_name 2 nd) (dgs_cons (dg_name 3 nd) dgs_nil))) (ds_one (ds_for po rfl (di_range2 rfl T.z_range (da_cons (de_bin opD_add (de_var (i := 2)) de_int) (da_cons (de_callBi callD_len rfl T.z_len bt_len (da_cons (de_var (i := 0)) da_nil)) da_nil))) (dg_name 4 nd) (ds_cons
 (ds_set 5 nd (de_ix (de_var (i := 0)) (de_var (i := 4))))
 (ds_one (ds_expr (de_extend 1 (da_cons (de_lc (own := [("c", 6)]) rfl nd (di_seq (de_slice (de_var (i := 0)) (do_some (de_bin opD_add (de_var (i := 4)) de_int)) do_none)) (blkOk_by (N := nn_in_line) (sc := defScope (topS 28)) (by decide +kernel)) (fun _ _ _ _ _ => (dg_name 6 nd)) (fun _ _ _ _ _ => (dts_one (dt_cmp (opD_eq hu) (de_call (ok_turned T) takesF (hr.mono (by decide)) rfl T.m22 T.f22.kp T.b22 (da_cons (de_var (i := 3)) (da_cons (de_var (i := 5)) (da_cons (de_var (i := 6)) da_nil)))) de_int))) (fun _ _ _ _ _ => (de_tup (da_cons (de_var (i := 3)) (da_cons (de_var (i := 5)) (da_cons (de_var (i := 6)) da_nil)))))) da_nil))))))))
 (ds_one (ds_ret (de_var (i := 1)))))))
theorem sc__law_flags : FnScope ["e"] ["e"] (defScope (topS 34)) := ⟨rfl, rfl, rfl, by decide +kernel, rfl, by decide +kernel, by decide +kernel⟩
abbrev nn_is_stretch : List Str := ["value", "point"]
theorem sc_is_stretch : FnScope nn_is_stretch ["value"] (defScope (topS 18)) := ⟨rfl, rfl, rfl, by decide +kernel, rfl, by decide +kernel, by decide +kernel⟩
noncomputable def C_is_stretch_0 : DS → Res RV :=
 (mCall 1 F_is_point (mCons (mVar 1) mNil))
noncomputable def M_is_stretch : DS → SRes :=
 (mSeq
 (mIfS (mOrT (mNotT (mTest (mIsi "tuple" (mVar 0)))) (mOrT (mTest (mBin neD (mCB lenD (mCons (mVar 0) mNil)) (mC (.int 2)))) (mNotT (mTest (mCB allD (mCons (mLc (mIter (mVar 0)) [1] (tgN 1) mYes C_is_stretch_0) mNil)))))) (mRet (mC (.bl false))) mSkip)
 (mRet (mBin neD (mBin ixD (mVar 0) (mC (.int 0))) (mBin ixD (mVar 0) (mC (.int 1))))))
noncomputable def F_is_stretch : List D → FR := runF nn_is_stretch.length M_is_stretch
theorem ok_is_stretch (T : Txt K mg base g fd ca cP) : FnOk P w K mg base (L2N.CX P w) 4 (g 18) (fd 18) ["value"] (spP g K 1 F_is_stretch) := by
  refine fn_p (N := nn_is_stretch) (lv := 3) (m := M_is_stretch) T.f18 sc_is_stretch fun cdv A outer s H E hr => ?_
  have nd : (nn_is_stretch : List Str).Nodup := sc_is_stretch.nd
  have hu := hr.units
  have hu5 := units65 hr
  have tk : L2N.Takes (cxOf (L2N.CX P w) P w K mg base nn_is_stretch "is_stretch" (defScope (topS 18)) (g 18) cdv A outer s H E) (fun cls d _ H => E cls d H) := L2N.takes_of rfl rfl rfl rfl
  have po : PassesOwn (model P w) (cxOf (L2N.CX P w) P w K mg base nn_is_stretch "is_stretch" (defScope (topS 18)) (g 18) cdv A outer s H E).A (cxOf (L2N.CX P w) P w K mg base nn_is_stretch "is_stretch" (defScope (topS 18)) (g 18) cdv A outer s H E).env (cxOf (L2N.CX P w) P w K mg base nn_is_stretch "is_stretch" (defScope (topS 18)) (g 18) cdv A outer s H E).xe := passes_of rfl
  exact (ds_cons
 (ds_if (dt_w (dw_or (dt_not (dt_val (de_isi "tuple" rfl T.z_isinstance rfl T.z_tuple bt_tuple (de_var (i := 0))))) (dw_or (dt_cmp (opD_ne hu) (de_callBi callD_len rfl T.z_len bt_len (da_cons (de_var (i := 0)) da_nil)) de_int) (dw_or1 (dt_not (dt_val (de_callBi (callD_all rfl) rfl T.z_all bt_all (da_cons (de_lc (own := [("point", 1)]) rfl nd (di_seq (de_var (i := 0))) (blkOk_by (N := nn_is_stretch) (sc := defScope (topS 18)) (by decide +kernel)) (fun _ _ _ _ _ => (dg_name 1 nd)) (fun _ _ _ _ _ => dts_nil) (fun _ _ _ _ _ => (de_call (ok_is_point T) takesF (hr.mono (by decide)) rfl T.m16 T.f16.kp T.b16 (da_cons (de_var (i := 1)) da_nil)))) da_nil)))))))) (ds_one (ds_ret de_bl)) ds_nil)
 (ds_one (ds_ret (de_cmp (opD_ne hu) (de_ix (de_var (i := 0)) de_int) (de_ix (de_var (i := 0)) de_int)))))
abbrev nn_check_stretches : List Str := ["stretches", "stretch"]
theorem sc_check_stretches : FnScope nn_check_stretches ["stretches"] (defScope (topS 21)) := ⟨rfl, rfl, rfl, by decide +kernel, rfl, by decide +kernel, by decide +kernel⟩
noncomputable def C_check_stretches_0 : DS → Res RV :=
 (mCall 1 F_is_stretch (mCons (mVar 1) mNil))
noncomputable def M_check_stretches : DS → SRes :=
 (mIfS (mNotT (mTest (mCB allD (mCons (mLc (mIter (mVar 0)) [1] (tgN 1) mYes C_check_stretches_0) mNil)))) (mRaise 2) mSkip)
noncomputable def F_check_stretches : List D → FR := runF nn_check_stretches.length M_check_stretches
theorem ok_check_stretches (T : Txt K mg base g fd ca cP) : FnOk P w K mg base (L2N.CX P w) 5 (g 21) (fd 21) ["stretches"] (spP g K 1 F_check_stretches) := by
  refine fn_p (N := nn_check_stretches) (lv := 4) (m := M_check_stretches) T.f21 sc_check_stretches fun cdv A outer s H E hr => ?_
  have nd : (nn_check_stretches : List Str).Nodup := sc_check_stretches.nd
  have hu := hr.units
  have hu5 := units65 hr
  have tk : L2N.Takes (cxOf (L2N.CX P w) P w K mg base nn_check_stretches "check_stretches" (defScope (topS 21)) (g 21) cdv A outer s H E) (fun cls d _ H => E cls d H) := L2N.takes_of rfl rfl rfl rfl
  have po : PassesOwn (model P w) (cxOf (L2N.CX P w) P w K mg base nn_check_stretches "check_stretches" (defScope (topS 21)) (g 21) cdv A outer s H E).A (cxOf (L2N.CX P w) P w K mg base nn_check_stretches "check_stretches" (defScope (topS 21)) (g 21) cdv A outer s H E).env (cxOf (L2N.CX P w) P w K mg base nn_check_stretches "check_stretches" (defScope (topS 21)) (g 21) cdv A outer s H E).xe := passes_of rfl
  exact (ds_one (ds_if (dt_not (dt_val (de_callBi (callD_all rfl) rfl T.z_all bt_all (da_cons (de_lc (own := [("stretch", 1)]) rfl nd (di_seq (de_var (i := 0))) (blkOk_by (N := nn_check_stretches) (sc := defScope (topS 21)) (by decide +kernel)) (fun _ _ _ _ _ => (dg_name 1 nd)) (fun _ _ _ _ _ => dts_nil) (fun _ _ _ _ _ => (de_call (ok_is_stretch T) takesF (hr.mono (by decide)) rfl T.m18 T.f18.kp T.b18 (da_cons (de_var (i := 1)) da_nil)))) da_nil)))) (ds_one (ds_raise rfl tk PySem.F.excBase_ValueError T.x2 T.m2 T.c2 (raises_own T.s2 T.t2) rfl)) ds_nil))
abbrev nn_shared : List Str := ["n", "d", "one", "other"]
theorem sc_shared : FnScope nn_shared ["n", "d"] (defScope (topS 10)) := ⟨rfl, rfl, rfl, by decide +kernel, rfl, by decide +kernel, by decide +kernel⟩
noncomputable def B_shared_0 : DS → SRes :=
 (mPar 2 3 (mCons (mVar 3) (mCons (mBin modD (mVar 2) (mVar 3)) mNil)))
noncomputable def T_shared_0 : DS → Res Bool :=
 (mTest (mBin gtD (mVar 3) (mC (.int 0))))
noncomputable def M_shared : DS → SRes :=
 (mSeq
 (mPar 2 3 (mCons (mCB absD (mCons (mVar 0) mNil)) (mCons (mCB absD (mCons (mVar 1) mNil)) mNil)))
 (mSeq
 (mWhile T_shared_0 B_shared_0)
 (mRet (mVar 2))))
noncomputable def F_shared : List D → FR := runF nn_shared.length M_shared
theorem ok_shared (T : Txt K mg base g fd ca cP) : FnOk P w K mg base (L2N.CX P w) 1 (g 10) (fd 10) ["n", "d"] (spP g K 2 F_shared) := by
  refine fn_p (N := nn_shared) (lv := 0) (m := M_shared) T.f10 sc_shared fun cdv A outer s H E hr => ?_
  have nd : (nn_shared : List Str).Nodup := sc_shared.nd
  have hu := hr.units
  have hu5 := units65 hr
  have tk : L2N.Takes (cxOf (L2N.CX P w) P w K mg base nn_shared "shared" (defScope (topS 10)) (g 10) cdv A outer s H E) (fun cls d _ H => E cls d H) := L2N.takes_of rfl rfl rfl rfl
  have po : PassesOwn (model P w) (cxOf (L2N.CX P w) P w K mg base nn_shared "shared" (defScope (topS 10)) (g 10) cdv A outer s H E).A (cxOf (L2N.CX P w) P w K mg base nn_shared "shared" (defScope (topS 10)) (g 10) cdv A outer s H E).env (cxOf (L2N.CX P w) P w K mg base nn_shared "shared" (defScope (topS 10)) (g 10) cdv A outer s H E).xe := passes_of rfl
  exact (ds_cons
 (ds_par 2 3 rfl nd (da_cons (de_callBi callD_abs rfl T.z_abs bt_abs (da_cons (de_var (i := 0)) da_nil)) (da_cons (de_callBi callD_abs rfl T.z_abs bt_abs (da_cons (de_var (i := 1)) da_nil)) da_nil)))
 (ds_cons
 (ds_while po (dt_cmp opD_gt (de_var (i := 3)) de_int) (ds_one (ds_par 2 3 rfl nd (da_cons (de_var (i := 3)) (da_cons (de_bin opD_mod (de_var (i := 2)) (de_var (i := 3))) da_nil)))))
 (ds_one (ds_ret (de_var (i := 2))))))
abbrev nn_made : List Str := ["n", "d", "common"]
theorem sc_made : FnScope nn_made ["n", "d"] (defScope (topS 11)) := ⟨rfl, rfl, rfl, by decide +kernel, rfl, by decide +kernel, by decide +kernel⟩
noncomputable def M_made : DS → SRes :=
 (mSeq
 (mSet 2 (mIf (mTest (mBin gtD (mVar 1) (mC (.int 0)))) (mCall 2 F_shared (mCons (mVar 0) (mCons (mVar 1) mNil))) (mUn negD (mCall 2 F_shared (mCons (mVar 0) (mCons (mVar 1) mNil))))))
 (mRet (mTup (mCons (mBin fdivD (mVar 0) (mVar 2)) (mCons (mBin fdivD (mVar 1) (mVar 2)) mNil)))))
noncomputable def F_made : List D → FR := runF nn_made.length M_made
theorem ok_made (T : Txt K mg base g fd ca cP) : FnOk P w K mg base (L2N.CX P w) 2 (g 11) (fd 11) ["n", "d"] (spP g K 2 F_made) := by
  refine fn_p (N := nn_made) (lv := 1) (m := M_made) T.f11 sc_made fun cdv A outer s H E hr => ?_
  have nd : (nn_made : List Str).Nodup := sc_made.nd
  have hu := hr.units
  have hu5 := units65 hr
  have tk : L2N.Takes (cxOf (L2N.CX P w) P w K mg base nn_made "made" (defScope (topS 11)) (g 11) cdv A outer s H E) (fun cls d _ H => E cls d H) := L2N.takes_of rfl rfl rfl rfl
  have po : PassesOwn (model P w) (cxOf (L2N.CX P w) P w K mg base nn_made "made" (defScope (topS 11)) (g 11) cdv A outer s H E).A (cxOf (L2N.CX P w) P w K mg base nn_made "made" (defScope (topS 11)) (g 11) cdv A outer s H E).env (cxOf (L2N.CX P w) P w K mg base nn_made "made" (defScope (topS 11)) (g 11) cdv A outer s H E).xe := passes_of rfl
  exact (ds_cons
 (ds_set 2 nd (de_if (dt_cmp opD_gt (de_var (i := 1)) de_int) (de_call (ok_shared T) tk (hr.mono (by decide)) rfl T.m10 T.f10.kp T.b10 (da_cons (de_var (i := 0)) (da_cons (de_var (i := 1)) da_nil))) (de_un unD_neg (de_call (ok_shared T) tk (hr.mono (by decide)) rfl T.m10 T.f10.kp T.b10 (da_cons (de_var (i := 0)) (da_cons (de_var (i := 1)) da_nil))))))
 (ds_one (ds_ret (de_tup (da_cons (de_bin opD_fdiv (de_var (i := 0)) (de_var (i := 2))) (da_cons (de_bin opD_fdiv (de_var (i := 1)) (de_var (i := 2))) da_nil))))))
abbrev nn_meeting_by : List Str := ["one", "other", "a", "b", "c", "d", "x", "y", "u", "v", "low", "high"]
theorem sc_meeting_by : FnScope nn_meeting_by ["one", "other"] (defScope (topS 23)) := ⟨rfl, rfl, rfl, by decide +kernel, rfl, by decide +kernel, by decide +kernel⟩
noncomputable def M_meeting_by : DS → SRes :=
 (mSeq
 (mAsg (tgT 2 (tgCons (tgT 2 (tgCons (tgN 2) (tgCons (tgN 3) tgNil))) (tgCons (tgT 2 (tgCons (tgN 4) (tgCons (tgN 5) tgNil))) tgNil))) (mTup (mCons (mVar 0) (mCons (mVar 1) mNil))))
 (mSeq
 (mPar 6 7 (mCons (mBin subE (mBin ixD (mVar 3) (mC (.int 0))) (mBin ixD (mVar 2) (mC (.int 0)))) (mCons (mBin subE (mBin ixD (mVar 3) (mC (.int 1))) (mBin ixD (mVar 2) (mC (.int 1)))) mNil)))
 (mSeq
 (mPar 8 9 (mCons (mBin subE (mBin ixD (mVar 5) (mC (.int 0))) (mBin ixD (mVar 4) (mC (.int 0)))) (mCons (mBin subE (mBin ixD (mVar 5) (mC (.int 1))) (mBin ixD (mVar 4) (mC (.int 1)))) mNil)))
 (mSeq
 (mSet 10 (mBin subE (mBin mulE (mVar 6) (mVar 9)) (mBin mulE (mVar 7) (mVar 8))))
 (mSeq
 (mIfS (mTest (mBin eqD (mVar 10) (mC (.int 0)))) (mRet (mC .non)) mSkip)
 (mSeq
 (mSet 11 (mBin subE (mBin mulE (mBin subE (mBin ixD (mVar 4) (mC (.int 0))) (mBin ixD (mVar 2) (mC (.int 0)))) (mVar 9)) (mBin mulE (mBin subE (mBin ixD (mVar 4) (mC (.int 1))) (mBin ixD (mVar 2) (mC (.int 1)))) (mVar 8))))
 (mRet (mTup (mCons (mCall 2 F_made (mCons (mBin addD (mBin mulE (mBin ixD (mVar 2) (mC (.int 0))) (mVar 10)) (mBin mulE (mVar 6) (mVar 11))) (mCons (mVar 10) mNil))) (mCons (mCall 2 F_made (mCons (mBin addD (mBin mulE (mBin ixD (mVar 2) (mC (.int 1))) (mVar 10)) (mBin mulE (mVar 7) (mVar 11))) (mCons (mVar 10) mNil))) mNil))))))))))
noncomputable def F_meeting_by : List D → FR := runF nn_meeting_by.length M_meeting_by
theorem ok_meeting_by (T : Txt K mg base g fd ca cP) : FnOk P w K mg base (L2N.CX P w) 3 (g 23) (fd 23) ["one", "other"] (spP g K 2 F_meeting_by) := by
  refine fn_p (N := nn_meeting_by) (lv := 2) (m := M_meeting_by) T.f23 sc_meeting_by fun cdv A outer s H E hr => ?_
  have nd : (nn_meeting_by : List Str).Nodup := sc_meeting_by.nd
  have hu := hr.units
  have hu5 := units65 hr
  have tk : L2N.Takes (cxOf (L2N.CX P w) P w K mg base nn_meeting_by "meeting_by" (defScope (topS 23)) (g 23) cdv A outer s H E) (fun cls d _ H => E cls d H) := L2N.takes_of rfl rfl rfl rfl
  have po : PassesOwn (model P w) (cxOf (L2N.CX P w) P w K mg base nn_meeting_by "meeting_by" (defScope (topS 23)) (g 23) cdv A outer s H E).A (cxOf (L2N.CX P w) P w K mg base nn_meeting_by "meeting_by" (defScope (topS 23)) (g 23) cdv A outer s H E).env (cxOf (L2N.CX P w) P w K mg base nn_meeting_by "meeting_by" (defScope (topS 23)) (g 23) cdv A outer s H E).xe := passes_of rfl
  exact (ds_cons
 (ds_asg (de_tup (da_cons (de_var (i := 0)) (da_cons (de_var (i := 1)) da_nil))) (dg_tup rfl (dgs_cons (dg_tup rfl (dgs_cons (dg_name 2 nd) (dgs_cons (dg_name 3 nd) dgs_nil))) (dgs_cons (dg_tup rfl (dgs_cons (dg_name 4 nd) (dgs_cons (dg_name 5 nd) dgs_nil))) dgs_nil))))
 (ds_cons
 (ds_par 6 7 rfl nd (da_cons (de_bin opD_subE (de_ix (de_var (i := 3)) de_int) (de_ix (de_var (i := 2)) de_int)) (da_cons (de_bin opD_subE (de_ix (de_var (i := 3)) de_int) (de_ix (de_var (i := 2)) de_int)) da_nil)))
 (ds_cons
 (ds_par 8 9 rfl nd (da_cons (de_bin opD_subE (de_ix (de_var (i := 5)) de_int) (de_ix (de_var (i := 4)) de_int)) (da_cons (de_bin opD_subE (de_ix (de_var (i := 5)) de_int) (de_ix (de_var (i := 4)) de_int)) da_nil)))
 (ds_cons
 (ds_set 10 nd (de_bin opD_subE (de_bin opD_mulE (de_var (i := 6)) (de_var (i := 9))) (de_bin opD_mulE (de_var (i := 7)) (de_var (i := 8)))))
 (ds_cons
 (ds_if (dt_cmp (opD_eq hu) (de_var (i := 10)) de_int) (ds_one (ds_ret de_non)) ds_nil)
 (ds_cons
 (ds_set 11 nd (de_bin opD_subE (de_bin opD_mulE (de_bin opD_subE (de_ix (de_var (i := 4)) de_int) (de_ix (de_var (i := 2)) de_int)) (de_var (i := 9))) (de_bin opD_mulE (de_bin opD_subE (de_ix (de_var (i := 4)) de_int) (de_ix (de_var (i := 2)) de_int)) (de_var (i := 8)))))
 (ds_one (ds_ret (de_tup (da_cons (de_call (ok_made T) tk (hr.mono (by decide)) rfl T.m11 T.f11.kp T.b11 (da_cons (de_bin opD_add (de_bin opD_mulE (de_ix (de_var (i := 2)) de_int) (de_var (i := 10))) (de_bin opD_mulE (de_var (i := 6)) (de_var (i := 11)))) (da_cons (de_var (i := 10)) da_nil))) (da_cons (de_call (ok_made T) tk (hr.mono (by decide)) rfl T.m11 T.f11.kp T.b11 (da_cons (de_bin opD_add (de_bin opD_mulE (de_ix (de_var (i := 2)) de_int) (de_var (i := 10))) (de_bin opD_mulE (de_var (i := 7)) (de_var (i := 11)))) (da_cons (de_var (i := 10)) da_nil))) da_nil)))))))))))
abbrev nn_meeting : List Str := ["one", "other"]
theorem sc_meeting : FnScope nn_meeting ["one", "other"] (defScope (topS 24)) := ⟨rfl, rfl, rfl, by decide +kernel, rfl, by decide +kernel, by decide +kernel⟩
noncomputable def M_meeting : DS → SRes :=
 (mSeq
 (mDrop (mCall 1 F_check_stretches (mCons (mLst (mCons (mVar 0) (mCons (mVar 1) mNil))) mNil)))
 (mRet (mCall 2 F_meeting_by (mCons (mVar 0) (mCons (mVar 1) mNil)))))
noncomputable def F_meeting : List D → FR := runF nn_meeting.length M_meeting
theorem ok_meeting (T : Txt K mg base g fd ca cP) : FnOk P w K mg base (L2N.CX P w) 6 (g 24) (fd 24) ["one", "other"] (spP g K 2 F_meeting) := by
  refine fn_p (N := nn_meeting) (lv := 5) (m := M_meeting) T.f24 sc_meeting fun cdv A outer s H E hr => ?_
  have nd : (nn_meeting : List Str).Nodup := sc_meeting.nd
  have hu := hr.units
  have hu5 := units65 hr
  have tk : L2N.Takes (cxOf (L2N.CX P w) P w K mg base nn_meeting "meeting" (defScope (topS 24)) (g 24) cdv A outer s H E) (fun cls d _ H => E cls d H) := L2N.takes_of rfl rfl rfl rfl
  have po : PassesOwn (model P w) (cxOf (L2N.CX P w) P w K mg base nn_meeting "meeting" (defScope (topS 24)) (g 24) cdv A outer s H E).A (cxOf (L2N.CX P w) P w K mg base nn_meeting "meeting" (defScope (topS 24)) (g 24) cdv A outer s H E).env (cxOf (L2N.CX P w) P w K mg base nn_meeting "meeting" (defScope (topS 24)) (g 24) cdv A outer s H E).xe := passes_of rfl
  exact (ds_cons
 (ds_expr (de_call (ok_check_stretches T) tk (hr.mono (by decide)) rfl T.m21 T.f21.kp T.b21 (da_cons (de_lst (da_cons (de_var (i := 0)) (da_cons (de_var (i := 1)) da_nil))) da_nil)))
 (ds_one (ds_ret (de_call (ok_meeting_by T) tk (hr.mono (by decide)) rfl T.m23 T.f23.kp T.b23 (da_cons (de_var (i := 0)) (da_cons (de_var (i := 1)) da_nil))))))
abbrev nn_check_points : List Str := ["points", "point"]
theorem sc_check_points : FnScope nn_check_points ["points"] (defScope (topS 19)) := ⟨rfl, rfl, rfl, by decide +kernel, rfl, by decide +kernel, by decide +kernel⟩
noncomputable def C_check_points_0 : DS → Res RV :=
 (mCall 1 F_is_point (mCons (mVar 1) mNil))
noncomputable def M_check_points : DS → SRes :=
 (mIfS (mNotT (mTest (mCB allD (mCons (mLc (mIter (mVar 0)) [1] (tgN 1) mYes C_check_points_0) mNil)))) (mRaise 2) mSkip)
noncomputable def F_check_points : List D → FR := runF nn_check_points.length M_check_points
theorem ok_check_points (T : Txt K mg base g fd ca cP) : FnOk P w K mg base (L2N.CX P w) 4 (g 19) (fd 19) ["points"] (spP g K 1 F_check_points) := by
  refine fn_p (N := nn_check_points) (lv := 3) (m := M_check_points) T.f19 sc_check_points fun cdv A outer s H E hr => ?_
  have nd : (nn_check_points : List Str).Nodup := sc_check_points.nd
  have hu := hr.units
  have hu5 := units65 hr
  have tk : L2N.Takes (cxOf (L2N.CX P w) P w K mg base nn_check_points "check_points" (defScope (topS 19)) (g 19) cdv A outer s H E) (fun cls d _ H => E cls d H) := L2N.takes_of rfl rfl rfl rfl
  have po : PassesOwn (model P w) (cxOf (L2N.CX P w) P w K mg base nn_check_points "check_points" (defScope (topS 19)) (g 19) cdv A outer s H E).A (cxOf (L2N.CX P w) P w K mg base nn_check_points "check_points" (defScope (topS 19)) (g 19) cdv A outer s H E).env (cxOf (L2N.CX P w) P w K mg base nn_check_points "check_points" (defScope (topS 19)) (g 19) cdv A outer s H E).xe := passes_of rfl
  exact (ds_one (ds_if (dt_not (dt_val (de_callBi (callD_all rfl) rfl T.z_all bt_all (da_cons (de_lc (own := [("point", 1)]) rfl nd (di_seq (de_var (i := 0))) (blkOk_by (N := nn_check_points) (sc := defScope (topS 19)) (by decide +kernel)) (fun _ _ _ _ _ => (dg_name 1 nd)) (fun _ _ _ _ _ => dts_nil) (fun _ _ _ _ _ => (de_call (ok_is_point T) takesF (hr.mono (by decide)) rfl T.m16 T.f16.kp T.b16 (da_cons (de_var (i := 1)) da_nil)))) da_nil)))) (ds_one (ds_raise rfl tk PySem.F.excBase_ValueError T.x2 T.m2 T.c2 (raises_own T.s2 T.t2) rfl)) ds_nil))
abbrev nn_angle : List Str := ["x", "y", "side"]
theorem sc_angle : FnScope nn_angle ["x", "y"] (defScope (topS 26)) := ⟨rfl, rfl, rfl, by decide +kernel, rfl, by decide +kernel, by decide +kernel⟩
noncomputable def M_angle : DS → SRes :=
 (mSeq
 (mSet 2 (mIf (mOrT (mTest (mBin gtD (mVar 1) (mC (.int 0)))) (mAndT (mTest (mBin eqD (mVar 1) (mC (.int 0)))) (mTest (mBin gtD (mVar 0) (mC (.int 0)))))) (mC (.int 0)) (mC (.int 1))))
 (mSeq
 (mIfS (mTest (mBin eqD (mVar 2) (mC (.int 1)))) (mPar 0 1 (mCons (mUn negD (mVar 0)) (mCons (mUn negD (mVar 1)) mNil))) mSkip)
 (mRet (mTup (mCons (mVar 2) (mCons (mIf (mTest (mBin eqD (mVar 1) (mC (.int 0)))) (mBin mulE (mUn negD (mC (.int 1000000000))) (mC (.int 1000000000))) (mUn negD (mBin fdivD (mBin mulE (mVar 0) (mC (.int 1000000000))) (mVar 1)))) mNil))))))
noncomputable def F_angle : List D → FR := runF nn_angle.length M_angle
theorem ok_angle (T : Txt K mg base g fd ca cP) : FnOk P w K mg base (L2N.CX P w) 1 (g 26) (fd 26) ["x", "y"] (spP g K 2 F_angle) := by
  refine fn_p (N := nn_angle) (lv := 0) (m := M_angle) T.f26 sc_angle fun cdv A outer s H E hr => ?_
  have nd : (nn_angle : List Str).Nodup := sc_angle.nd
  have hu := hr.units
  have hu5 := units65 hr
  have tk : L2N.Takes (cxOf (L2N.CX P w) P w K mg base nn_angle "angle" (defScope (topS 26)) (g 26) cdv A outer s H E) (fun cls d _ H => E cls d H) := L2N.takes_of rfl rfl rfl rfl
  have po : PassesOwn (model P w) (cxOf (L2N.CX P w) P w K mg base nn_angle "angle" (defScope (topS 26)) (g 26) cdv A outer s H E).A (cxOf (L2N.CX P w) P w K mg base nn_angle "angle" (defScope (topS 26)) (g 26) cdv A outer s H E).env (cxOf (L2N.CX P w) P w K mg base nn_angle "angle" (defScope (topS 26)) (g 26) cdv A outer s H E).xe := passes_of rfl
  exact (ds_cons
 (ds_set 2 nd (de_if (dt_w (dw_or (dt_cmp opD_gt (de_var (i := 1)) de_int) (dw_or1 (dt_w (dw_and (dt_cmp (opD_eq hu) (de_var (i := 1)) de_int) (dw_and1 (dt_cmp opD_gt (de_var (i := 0)) de_int))))))) de_int de_int))
 (ds_cons
 (ds_if (dt_cmp (opD_eq hu) (de_var (i := 2)) de_int) (ds_one (ds_par 0 1 rfl nd (da_cons (de_un unD_neg (de_var (i := 0))) (da_cons (de_un unD_neg (de_var (i := 1))) da_nil)))) ds_nil)
 (ds_one (ds_ret (de_tup (da_cons (de_var (i := 2)) (da_cons (de_if (dt_cmp (opD_eq hu) (de_var (i := 1)) de_int) (de_bin opD_mulE (de_un unD_neg (de_gint T.n_FINE rfl)) (de_gint T.n_FINE rfl)) (de_un unD_neg (de_bin opD_fdiv (de_bin opD_mulE (de_var (i := 0)) (de_gint T.n_FINE rfl)) (de_var (i := 1))))) da_nil)))))))
abbrev nn_distance_by : List Str := ["a", "b"]
theorem sc_distance_by : FnScope nn_distance_by ["a", "b"] (defScope (topS 25)) := ⟨rfl, rfl, rfl, by decide +kernel, rfl, by decide +kernel, by decide +kernel⟩
noncomputable def M_distance_by : DS → SRes :=
 (mRet (mBin addD (mBin powD (mBin subE (mBin ixD (mVar 1) (mC (.int 0))) (mBin ixD (mVar 0) (mC (.int 0)))) (mC (.int 2))) (mBin powD (mBin subE (mBin ixD (mVar 1) (mC (.int 1))) (mBin ixD (mVar 0) (mC (.int 1)))) (mC (.int 2)))))
noncomputable def F_distance_by : List D → FR := runF nn_distance_by.length M_distance_by
theorem ok_distance_by (T : Txt K mg base g fd ca cP) : FnOk P w K mg base (L2N.CX P w) 1 (g 25) (fd 25) ["a", "b"] (spP g K 2 F_distance_by) := by
  refine fn_p (N := nn_distance_by) (lv := 0) (m := M_distance_by) T.f25 sc_distance_by fun cdv A outer s H E hr => ?_
  have nd : (nn_distance_by : List Str).Nodup := sc_distance_by.nd
  have hu := hr.units
  have hu5 := units65 hr
  have tk : L2N.Takes (cxOf (L2N.CX P w) P w K mg base nn_distance_by "distance_by" (defScope (topS 25)) (g 25) cdv A outer s H E) (fun cls d _ H => E cls d H) := L2N.takes_of rfl rfl rfl rfl
  have po : PassesOwn (model P w) (cxOf (L2N.CX P w) P w K mg base nn_distance_by "distance_by" (defScope (topS 25)) (g 25) cdv A outer s H E).A (cxOf (L2N.CX P w) P w K mg base nn_distance_by "distance_by" (defScope (topS 25)) (g 25) cdv A outer s H E).env (cxOf (L2N.CX P w) P w K mg base nn_distance_by "distance_by" (defScope (topS 25)) (g 25) cdv A outer s H E).xe := passes_of rfl
  exact (ds_one (ds_ret (de_bin opD_add (de_bin opD_pow (de_bin opD_subE (de_ix (de_var (i := 1)) de_int) (de_ix (de_var (i := 0)) de_int)) de_int) (de_bin opD_pow (de_bin opD_subE (de_ix (de_var (i := 1)) de_int) (de_ix (de_var (i := 0)) de_int)) de_int))))
abbrev nn_around : List Str := ["center", "points", "x", "y", "point"]
theorem sc_around : FnScope nn_around ["center", "points"] (defScope (topS 27)) := ⟨rfl, rfl, rfl, by decide +kernel, rfl, by decide +kernel, by decide +kernel⟩
noncomputable def C_around_0 : DS → Res RV :=
 (mTup (mCons (mCall 2 F_angle (mCons (mBin subE (mBin ixD (mVar 4) (mC (.int 0))) (mVar 2)) (mCons (mBin subE (mBin ixD (mVar 4) (mC (.int 1))) (mVar 3)) mNil))) (mCons (mCall 2 F_distance_by (mCons (mVar 0) (mCons (mVar 4) mNil))) mNil)))
noncomputable def M_around : DS → SRes :=
 (mSeq
 (mDrop (mCall 1 F_check_points (mCons (mLst (mCons (mVar 0) (mStar (mVar 1) mNil))) mNil)))
 (mSeq
 (mIfS (mTest (mBin inD (mVar 0) (mVar 1))) (mRaise 3) mSkip)
 (mSeq
 (mAsg (tgT 2 (tgCons (tgN 2) (tgCons (tgN 3) tgNil))) (mVar 0))
 (mRet (mSortK (mVar 1) 4 C_around_0)))))
noncomputable def F_around : List D → FR := runF nn_around.length M_around
theorem ok_around (T : Txt K mg base g fd ca cP) : FnOk P w K mg base (L2N.CX P w) 8 (g 27) (fd 27) ["center", "points"] (spP g K 2 F_around) := by
  refine fn_pC (N := nn_around) (lv := 7) (m := M_around) T.f27 sc_around fun cdv ec A outer s H E hr => ?_
  have nd : (nn_around : List Str).Nodup := sc_around.nd
  have hu := hr.units
  have hu5 := units65 hr
  have tk : L2N.Takes (cxOf (L2N.CX P w) P w K mg base nn_around "around" (defScope (topS 27)) (g 27) cdv A outer s H E) (fun cls d _ H => E cls d H) := L2N.takes_of rfl rfl rfl rfl
  have po : PassesOwn (model P w) (cxOf (L2N.CX P w) P w K mg base nn_around "around" (defScope (topS 27)) (g 27) cdv A outer s H E).A (cxOf (L2N.CX P w) P w K mg base nn_around "around" (defScope (topS 27)) (g 27) cdv A outer s H E).env (cxOf (L2N.CX P w) P w K mg base nn_around "around" (defScope (topS 27)) (g 27) cdv A outer s H E).xe := passes_of rfl
  exact (ds_cons
 (ds_expr (de_call (ok_check_points T) tk (hr.mono (by decide)) rfl T.m19 T.f19.kp T.b19 (da_cons (de_lst (da_cons (de_var (i := 0)) (da_star (de_var (i := 1)) da_nil))) da_nil)))
 (ds_cons
 (ds_if (dt_cmp (opD_in hu5) (de_var (i := 0)) (de_var (i := 1))) (ds_one (ds_raise rfl tk PySem.F.excBase_ValueError T.x3 T.m3 T.c3 (raises_own T.s3 T.t3) rfl)) ds_nil)
 (ds_cons
 (ds_asg (de_var (i := 0)) (dg_tup rfl (dgs_cons (dg_name 2 nd) (dgs_cons (dg_name 3 nd) dgs_nil))))
 (ds_one (ds_ret (de_sortK (q := "around.<locals>.<lambda>") (i := 4) (k := 4) (x := "point") hu5 hr rfl T.z_sorted (de_var (i := 1)) T.tb27 (ec.symm.trans T.cc27) (by rfl) T.tm27 T.tu27 rfl (lamP_by (N := nn_around) (sc := defScope (topS 27)) (by decide +kernel)) (fun _ _ _ _ _ => rfl) (fun A2 s2 H2 f2 c2 hr2 => by have hu := hr2.units; have hu5 := units65 hr2; exact (de_tup (da_cons (de_call (ok_angle T) takesF (hr2.mono (by decide)) rfl T.m26 T.f26.kp T.b26 (da_cons (de_bin opD_subE (de_ix (de_var (i := 4)) de_int) (de_var (i := 2))) (da_cons (de_bin opD_subE (de_ix (de_var (i := 4)) de_int) (de_var (i := 3))) da_nil))) (da_cons (de_call (ok_distance_by T) takesF (hr2.mono (by decide)) rfl T.m25 T.f25.kp T.b25 (da_cons (de_var (i := 0)) (da_cons (de_var (i := 4)) da_nil))) da_nil))))))))))
abbrev nn__law_told : List Str := ["which", "one", "other", "e"]
theorem sc__law_told : FnScope nn__law_told ["which", "one", "other"] (defScope (topS 45)) := ⟨rfl, rfl, rfl, by decide +kernel, rfl, by decide +kernel, by decide +kernel⟩
noncomputable def M_law_told : DS → SRes :=
 (mTry 3 (fun c => if c = 2 then some true else if c = 3 then some true else none) (mSeq
 (mIfS (mTest (mBin eqD (mVar 0) (mC (.int 2)))) (mRet (mCall 1 F_in_line (mCons (mVar 1) mNil))) mSkip)
 (mRet (mCallV (fun n => if n = 24 then some (2, F_meeting) else if n = 27 then some (2, F_around) else none) (mBin ixD (mLst (mCons (mC (.sym 24)) (mCons (mC (.sym 27)) mNil))) (mVar 0)) (mCons (mVar 1) (mCons (mVar 2) mNil))))) (fun c τ => if c = 2 then .ok (.fr (.lst (([true, false, false, false, false] : List Bool).map D.bl))) τ else if c = 3 then .ok (.fr (.lst (([false, true, false, false, false] : List Bool).map D.bl))) τ else .stuck))
noncomputable def F_law_told : List D → FR := runF nn__law_told.length M_law_told
theorem ok_law_told (T : Txt K mg base g fd ca cP) : FnOk P w K mg base (L2N.CX P w) 9 (g 45) (fd 45) ["which", "one", "other"] (spP g K 3 F_law_told) := by
  refine fn_p (N := nn__law_told) (lv := 8) (m := M_law_told) T.f45 sc__law_told fun cdv A outer s H E hr => ?_
  have nd : (nn__law_told : List Str).Nodup := sc__law_told.nd
  have hu := hr.units
  have hu5 := units65 hr
  have tk : L2N.Takes (cxOf (L2N.CX P w) P w K mg base nn__law_told "_law_told" (defScope (topS 45)) (g 45) cdv A outer s H E) (fun cls d _ H => E cls d H) := L2N.takes_of rfl rfl rfl rfl
  have po : PassesOwn (model P w) (cxOf (L2N.CX P w) P w K mg base nn__law_told "_law_told" (defScope (topS 45)) (g 45) cdv A outer s H E).A (cxOf (L2N.CX P w) P w K mg base nn__law_told "_law_told" (defScope (topS 45)) (g 45) cdv A outer s H E).env (cxOf (L2N.CX P w) P w K mg base nn__law_told "_law_told" (defScope (topS 45)) (g 45) cdv A outer s H E).xe := passes_of rfl
  exact (ds_one (ds_try (i := 3) (cs := fun c => if c = 2 then some true else if c = 3 then some true else none) (ms := fun c τ => if c = 2 then .ok (.fr (.lst (([true, false, false, false, false] : List Bool).map D.bl))) τ else if c = 3 then .ok (.fr (.lst (([false, true, false, false, false] : List Bool).map D.bl))) τ else .stuck) rfl rfl nd ⟨rfl, by decide, .inl T.m1⟩ tk (fun c b h => by (try dsimp only at h); (split at h; (rename_i hh; subst hh; (try dsimp only at h); cases h; exact T.e2_1); split at h; (rename_i hh; subst hh; (try dsimp only at h); cases h; exact T.e3_1); cases h)) (fun W pn xe tk2 po2 => (ds_cons
 (ds_if (dt_cmp (opD_eq hu) (de_var (i := 0)) de_int) (ds_one (ds_ret (de_call (ok_in_line T) tk2 (hr.mono (by decide)) rfl T.m28 T.f28.kp T.b28 (da_cons (de_var (i := 1)) da_nil)))) ds_nil)
 (ds_one (ds_ret (de_callV (T := fun n => if n = 24 then some (2, F_meeting) else if n = 27 then some (2, F_around) else none) (fun n ar F h => by (try dsimp only at h); (split at h; (rename_i hh; subst hh; (try dsimp only at h); cases h; exact ⟨_, _, _, (ok_meeting T), (hr.mono (by decide)), T.f24.kp, T.b24⟩); split at h; (rename_i hh; subst hh; (try dsimp only at h); cases h; exact ⟨_, _, _, (ok_around T), (hr.mono (by decide)), T.f27.kp, T.b27⟩); cases h)) tk2 (de_ix (de_lst (da_cons (de_sym (n := 24) rfl T.m24) (da_cons (de_sym (n := 27) rfl T.m27) da_nil))) (de_var (i := 0))) (da_cons (de_var (i := 1)) (da_cons (de_var (i := 2)) da_nil))))))) (fun c a oe pn h hz hfv => by (try dsimp only at h); (split at h; (rename_i hh; subst hh; exact suite_flags (kl := 0) (X := cxOf (L2N.CX P w) P w K mg base nn__law_told "_law_told" (defScope (topS 45)) (g 45) cdv A outer s H E) (g := g) (jf := 34) (nf := "e") (bs := [true, false, false, false, false]) T.f34 sc__law_flags T.b34 hz hfv hr (by rfl) T.m34 (by rfl) (by rfl) (by decide) (fun cdv s H => (pa_flag (pe_flag (g := g) (c1 := 2) List.mem_cons_self T.xc2 hz.zc hfv T.k2_2 (by rfl) T.z_isinstance (by rfl) T.m2 (by rfl) (by rfl) (by exact Or.inl rfl) (by rfl) (by rfl)) (pa_flag (pe_flag (g := g) (c1 := 3) List.mem_cons_self T.xc2 hz.zc hfv T.k2_3 (by rfl) T.z_isinstance (by rfl) T.m3 (by rfl) (by rfl) (by exact Or.inl rfl) (by rfl) (by rfl)) (pa_flag (pe_flag (g := g) (c1 := 4) List.mem_cons_self T.xc2 hz.zc hfv T.k2_4 (by rfl) T.z_isinstance (by rfl) T.m4 (by rfl) (by rfl) (by exact Or.inl rfl) (by rfl) (by rfl)) (pa_flag (pe_flag (g := g) (c1 := 5) List.mem_cons_self T.xc2 hz.zc hfv T.k2_5 (by rfl) T.z_isinstance (by rfl) T.m5 (by rfl) (by rfl) (by exact Or.inl rfl) (by rfl) (by rfl)) (pa_flag (pe_flag (g := g) (c1 := 6) List.mem_cons_self T.xc2 hz.zc hfv T.k2_6 (by rfl) T.z_isinstance (by rfl) T.m6 (by rfl) (by rfl) (by exact Or.inl rfl) (by rfl) (by rfl)) pa_flag0)))))) (by rfl) (by exact Or.inl rfl) (by rfl) (by rfl)); split at h; (rename_i hh; subst hh; exact suite_flags (kl := 0) (X := cxOf (L2N.CX P w) P w K mg base nn__law_told "_law_told" (defScope (topS 45)) (g 45) cdv A outer s H E) (g := g) (jf := 34) (nf := "e") (bs := [false, true, false, false, false]) T.f34 sc__law_flags T.b34 hz hfv hr (by rfl) T.m34 (by rfl) (by rfl) (by decide) (fun cdv s H => (pa_flag (pe_flag (g := g) (c1 := 2) List.mem_cons_self T.xc3 hz.zc hfv T.k3_2 (by rfl) T.z_isinstance (by rfl) T.m2 (by rfl) (by rfl) (by exact Or.inl rfl) (by rfl) (by rfl)) (pa_flag (pe_flag (g := g) (c1 := 3) List.mem_cons_self T.xc3 hz.zc hfv T.k3_3 (by rfl) T.z_isinstance (by rfl) T.m3 (by rfl) (by rfl) (by exact Or.inl rfl) (by rfl) (by rfl)) (pa_flag (pe_flag (g := g) (c1 := 4) List.mem_cons_self T.xc3 hz.zc hfv T.k3_4 (by rfl) T.z_isinstance (by rfl) T.m4 (by rfl) (by rfl) (by exact Or.inl rfl) (by rfl) (by rfl)) (pa_flag (pe_flag (g := g) (c1 := 5) List.mem_cons_self T.xc3 hz.zc hfv T.k3_5 (by rfl) T.z_isinstance (by rfl) T.m5 (by rfl) (by rfl) (by exact Or.inl rfl) (by rfl) (by rfl)) (pa_flag (pe_flag (g := g) (c1 := 6) List.mem_cons_self T.xc3 hz.zc hfv T.k3_6 (by rfl) T.z_isinstance (by rfl) T.m6 (by rfl) (by rfl) (by exact Or.inl rfl) (by rfl) (by rfl)) pa_flag0)))))) (by rfl) (by exact Or.inl rfl) (by rfl) (by rfl)); cases h))))
abbrev nn__law_turn : List Str := ["a", "b", "c"]
theorem sc__law_turn : FnScope nn__law_turn ["a", "b", "c"] (defScope (topS 38)) := ⟨rfl, rfl, rfl, by decide +kernel, rfl, by decide +kernel, by decide +kernel⟩
noncomputable def M_law_turn : DS → SRes :=
 (mRet (mBin subE (mBin mulE (mBin subE (mBin ixD (mVar 1) (mC (.int 0))) (mBin ixD (mVar 0) (mC (.int 0)))) (mBin subE (mBin ixD (mVar 2) (mC (.int 1))) (mBin ixD (mVar 0) (mC (.int 1))))) (mBin mulE (mBin subE (mBin ixD (mVar 1) (mC (.int 1))) (mBin ixD (mVar 0) (mC (.int 1)))) (mBin subE (mBin ixD (mVar 2) (mC (.int 0))) (mBin ixD (mVar 0) (mC (.int 0)))))))
noncomputable def F_law_turn : List D → FR := runF nn__law_turn.length M_law_turn
theorem ok_law_turn (T : Txt K mg base g fd ca cP) : FnOk P w K mg base (L2N.CX P w) 1 (g 38) (fd 38) ["a", "b", "c"] (spP g K 3 F_law_turn) := by
  refine fn_p (N := nn__law_turn) (lv := 0) (m := M_law_turn) T.f38 sc__law_turn fun cdv A outer s H E hr => ?_
  have nd : (nn__law_turn : List Str).Nodup := sc__law_turn.nd
  have hu := hr.units
  have hu5 := units65 hr
  have tk : L2N.Takes (cxOf (L2N.CX P w) P w K mg base nn__law_turn "_law_turn" (defScope (topS 38)) (g 38) cdv A outer s H E) (fun cls d _ H => E cls d H) := L2N.takes_of rfl rfl rfl rfl
  have po : PassesOwn (model P w) (cxOf (L2N.CX P w) P w K mg base nn__law_turn "_law_turn" (defScope (topS 38)) (g 38) cdv A outer s H E).A (cxOf (L2N.CX P w) P w K mg base nn__law_turn "_law_turn" (defScope (topS 38)) (g 38) cdv A outer s H E).env (cxOf (L2N.CX P w) P w K mg base nn__law_turn "_law_turn" (defScope (topS 38)) (g 38) cdv A outer s H E).xe := passes_of rfl
  exact (ds_one (ds_ret (de_bin opD_subE (de_bin opD_mulE (de_bin opD_subE (de_ix (de_var (i := 1)) de_int) (de_ix (de_var (i := 0)) de_int)) (de_bin opD_subE (de_ix (de_var (i := 2)) de_int) (de_ix (de_var (i := 0)) de_int))) (de_bin opD_mulE (de_bin opD_subE (de_ix (de_var (i := 1)) de_int) (de_ix (de_var (i := 0)) de_int)) (de_bin opD_subE (de_ix (de_var (i := 2)) de_int) (de_ix (de_var (i := 0)) de_int))))))
abbrev nn__law_half : List Str := ["center", "point", "x", "y"]
theorem sc__law_half : FnScope nn__law_half ["center", "point"] (defScope (topS 42)) := ⟨rfl, rfl, rfl, by decide +kernel, rfl, by decide +kernel, by decide +kernel⟩
noncomputable def M_law_half : DS → SRes :=
 (mSeq
 (mPar 2 3 (mCons (mBin subE (mBin ixD (mVar 1) (mC (.int 0))) (mBin ixD (mVar 0) (mC (.int 0)))) (mCons (mBin subE (mBin ixD (mVar 1) (mC (.int 1))) (mBin ixD (mVar 0) (mC (.int 1)))) mNil)))
 (mRet (mBin subE (mC (.int 1)) (mCB int1D (mCons (mOr (mBin gtD (mVar 3) (mC (.int 0))) (mAnd (mBin eqD (mVar 3) (mC (.int 0))) (mBin gtD (mVar 2) (mC (.int 0))))) mNil)))))
noncomputable def F_law_half : List D → FR := runF nn__law_half.length M_law_half
theorem ok_law_half (T : Txt K mg base g fd ca cP) : FnOk P w K mg base (L2N.CX P w) 1 (g 42) (fd 42) ["center", "point"] (spP g K 2 F_law_half) := by
  refine fn_p (N := nn__law_half) (lv := 0) (m := M_law_half) T.f42 sc__law_half fun cdv A outer s H E hr => ?_
  have nd : (nn__law_half : List Str).Nodup := sc__law_half.nd
  have hu := hr.units
  have hu5 := units65 hr
  have tk : L2N.Takes (cxOf (L2N.CX P w) P w K mg base nn__law_half "_law_half" (defScope (topS 42)) (g 42) cdv A outer s H E) (fun cls d _ H => E cls d H) := L2N.takes_of rfl rfl rfl rfl
  have po : PassesOwn (model P w) (cxOf (L2N.CX P w) P w K mg base nn__law_half "_law_half" (defScope (topS 42)) (g 42) cdv A outer s H E).A (cxOf (L2N.CX P w) P w K mg base nn__law_half "_law_half" (defScope (topS 42)) (g 42) cdv A outer s H E).env (cxOf (L2N.CX P w) P w K mg base nn__law_half "_law_half" (defScope (topS 42)) (g 42) cdv A outer s H E).xe := passes_of rfl
  exact (ds_cons
 (ds_par 2 3 rfl nd (da_cons (de_bin opD_subE (de_ix (de_var (i := 1)) de_int) (de_ix (de_var (i := 0)) de_int)) (da_cons (de_bin opD_subE (de_ix (de_var (i := 1)) de_int) (de_ix (de_var (i := 0)) de_int)) da_nil)))
 (ds_one (ds_ret (de_bin opD_subE de_int (de_callTy callD_int rfl T.z_int bt_int (da_cons (de_or (de_cmp opD_gt (de_var (i := 3)) de_int) (de_one (de_and (de_cmp (opD_eq hu) (de_var (i := 3)) de_int) (de_one (de_cmp opD_gt (de_var (i := 2)) de_int))))) da_nil))))))
abbrev nn__law_is_ahead : List Str := ["center", "one", "other", "much", "far", "p"]
theorem sc__law_is_ahead : FnScope nn__law_is_ahead ["center", "one", "other"] (defScope (topS 43)) := ⟨rfl, rfl, rfl, by decide +kernel, rfl, by decide +kernel, by decide +kernel⟩
noncomputable def C_law_is_ahead_0 : DS → Res RV :=
 (mBin addD (mBin mulE (mBin subE (mBin ixD (mVar 5) (mC (.int 0))) (mBin ixD (mVar 0) (mC (.int 0)))) (mBin subE (mBin ixD (mVar 5) (mC (.int 0))) (mBin ixD (mVar 0) (mC (.int 0))))) (mBin mulE (mBin subE (mBin ixD (mVar 5) (mC (.int 1))) (mBin ixD (mVar 0) (mC (.int 1)))) (mBin subE (mBin ixD (mVar 5) (mC (.int 1))) (mBin ixD (mVar 0) (mC (.int 1))))))
noncomputable def M_law_is_ahead : DS → SRes :=
 (mSeq
 (mIfS (mTest (mBin neD (mCall 2 F_law_half (mCons (mVar 0) (mCons (mVar 1) mNil))) (mCall 2 F_law_half (mCons (mVar 0) (mCons (mVar 2) mNil))))) (mRet (mBin ltD (mCall 2 F_law_half (mCons (mVar 0) (mCons (mVar 1) mNil))) (mCall 2 F_law_half (mCons (mVar 0) (mCons (mVar 2) mNil))))) mSkip)
 (mSeq
 (mSet 3 (mCall 3 F_law_turn (mCons (mVar 0) (mCons (mVar 1) (mCons (mVar 2) mNil)))))
 (mSeq
 (mSet 4 (mLc (mIter (mLst (mCons (mVar 1) (mCons (mVar 2) mNil)))) [5] (tgN 5) mYes C_law_is_ahead_0))
 (mRet (mOr (mBin gtD (mVar 3) (mC (.int 0))) (mAnd (mBin eqD (mVar 3) (mC (.int 0))) (mBin ltD (mBin ixD (mVar 4) (mC (.int 0))) (mBin ixD (mVar 4) (mC (.int 1))))))))))
noncomputable def F_law_is_ahead : List D → FR := runF nn__law_is_ahead.length M_law_is_ahead
theorem ok_law_is_ahead (T : Txt K mg base g fd ca cP) : FnOk P w K mg base (L2N.CX P w) 2 (g 43) (fd 43) ["center", "one", "other"] (spP g K 3 F_law_is_ahead) := by
  refine fn_p (N := nn__law_is_ahead) (lv := 1) (m := M_law_is_ahead) T.f43 sc__law_is_ahead fun cdv A outer s H E hr => ?_
  have nd : (nn__law_is_ahead : List Str).Nodup := sc__law_is_ahead.nd
  have hu := hr.units
  have hu5 := units65 hr
  have tk : L2N.Takes (cxOf (L2N.CX P w) P w K mg base nn__law_is_ahead "_law_is_ahead" (defScope (topS 43)) (g 43) cdv A outer s H E) (fun cls d _ H => E cls d H) := L2N.takes_of rfl rfl rfl rfl
  have po : PassesOwn (model P w) (cxOf (L2N.CX P w) P w K mg base nn__law_is_ahead "_law_is_ahead" (defScope (topS 43)) (g 43) cdv A outer s H E).A (cxOf (L2N.CX P w) P w K mg base nn__law_is_ahead "_law_is_ahead" (defScope (topS 43)) (g 43) cdv A outer s H E).env (cxOf (L2N.CX P w) P w K mg base nn__law_is_ahead "_law_is_ahead" (defScope (topS 43)) (g 43) cdv A outer s H E).xe := passes_of rfl
  exact (ds_cons
 (ds_if (dt_cmp (opD_ne hu) (de_call (ok_law_half T) tk (hr.mono (by decide)) rfl T.m42 T.f42.kp T.b42 (da_cons (de_var (i := 0)) (da_cons (de_var (i := 1)) da_nil))) (de_call (ok_law_half T) tk (hr.mono (by decide)) rfl T.m42 T.f42.kp T.b42 (da_cons (de_var (i := 0)) (da_cons (de_var (i := 2)) da_nil)))) (ds_one (ds_ret (de_cmp (opD_lt hu) (de_call (ok_law_half T) tk (hr.mono (by decide)) rfl T.m42 T.f42.kp T.b42 (da_cons (de_var (i := 0)) (da_cons (de_var (i := 1)) da_nil))) (de_call (ok_law_half T) tk (hr.mono (by decide)) rfl T.m42 T.f42.kp T.b42 (da_cons (de_var (i := 0)) (da_cons (de_var (i := 2)) da_nil)))))) ds_nil)
 (ds_cons
 (ds_set 3 nd (de_call (ok_law_turn T) tk (hr.mono (by decide)) rfl T.m38 T.f38.kp T.b38 (da_cons (de_var (i := 0)) (da_cons (de_var (i := 1)) (da_cons (de_var (i := 2)) da_nil)))))
 (ds_cons
 (ds_setLc 4 (own := [("p", 5)]) rfl nd (di_seq (de_lst (da_cons (de_var (i := 1)) (da_cons (de_var (i := 2)) da_nil)))) (blkOk_by (N := nn__law_is_ahead) (sc := defScope (topS 43)) (by decide +kernel)) (fun _ _ _ _ _ => (dg_name 5 nd)) (fun _ _ _ _ _ => dts_nil) (fun _ _ _ _ _ => (de_bin opD_add (de_bin opD_mulE (de_bin opD_subE (de_ix (de_var (i := 5)) de_int) (de_ix (de_var (i := 0)) de_int)) (de_bin opD_subE (de_ix (de_var (i := 5)) de_int) (de_ix (de_var (i := 0)) de_int))) (de_bin opD_mulE (de_bin opD_subE (de_ix (de_var (i := 5)) de_int) (de_ix (de_var (i := 0)) de_int)) (de_bin opD_subE (de_ix (de_var (i := 5)) de_int) (de_ix (de_var (i := 0)) de_int))))))
 (ds_one (ds_ret (de_or (de_cmp opD_gt (de_var (i := 3)) de_int) (de_one (de_and (de_cmp (opD_eq hu) (de_var (i := 3)) de_int) (de_one (de_cmp (opD_lt hu) (de_ix (de_var (i := 4)) de_int) (de_ix (de_var (i := 4)) de_int)))))))))))
abbrev nn__law_around : List Str := ["center", "points", "found", "point", "place", "other"]
theorem sc__law_around : FnScope nn__law_around ["center", "points"] (defScope (topS 44)) := ⟨rfl, rfl, rfl, by decide +kernel, rfl, by decide +kernel, by decide +kernel⟩
noncomputable def Q_law_around_0 : DS → Res Bool :=
 (mTest (mCall 3 F_law_is_ahead (mCons (mVar 0) (mCons (mVar 5) (mCons (mVar 3) mNil)))))
noncomputable def B_law_around_0 : DS → SRes :=
 (mSeq
 (mSet 4 (mCB lenD (mCons (mLc (mIter (mVar 2)) [5] (tgN 5) Q_law_around_0 (mVar 5)) mNil)))
 (mSet 2 (mBin addD (mBin addD (mSl (mVar 2) mNone (mSome (mVar 4))) (mLst (mCons (mVar 3) mNil))) (mSl (mVar 2) (mSome (mVar 4)) mNone))))
noncomputable def M_law_around : DS → SRes :=
 (mSeq
 (mSet 2 (mLst mNil))
 (mSeq
 (mFor (mIter (mVar 1)) (tgN 3) B_law_around_0)
 (mRet (mVar 2))))
noncomputable def F_law_around : List D → FR := runF nn__law_around.length M_law_around
theorem ok_law_around (T : Txt K mg base g fd ca cP) : FnOk P w K mg base (L2N.CX P w) 3 (g 44) (fd 44) ["center", "points"] (spP g K 2 F_law_around) := by
  refine fn_p (N := nn__law_around) (lv := 2) (m := M_law_around) T.f44 sc__law_around fun cdv A outer s H E hr => ?_
  have nd : (nn__law_around : List Str).Nodup := sc__law_around.nd
  have hu := hr.units
  have hu5 := units65 hr
  have tk : L2N.Takes (cxOf (L2N.CX P w) P w K mg base nn__law_around "_law_around" (defScope (topS 44)) (g 44) cdv A outer s H E) (fun cls d _ H => E cls d H) := L2N.takes_of rfl rfl rfl rfl
  have po : PassesOwn (model P w) (cxOf (L2N.CX P w) P w K mg base nn__law_around "_law_around" (defScope (topS 44)) (g 44) cdv A outer s H E).A (cxOf (L2N.CX P w) P w K mg base nn__law_around "_law_around" (defScope (topS 44)) (g 44) cdv A outer s H E).env (cxOf (L2N.CX P w) P w K mg base nn__law_around "_law_around" (defScope (topS 44)) (g 44) cdv A outer s H E).xe := passes_of rfl
  exact (ds_cons
 (ds_set 2 nd (de_lst da_nil))
 (ds_cons
 (ds_for po rfl (di_seq (de_var (i := 1))) (dg_name 3 nd) (ds_cons
 (ds_set 4 nd (de_callBi callD_len rfl T.z_len bt_len (da_cons (de_lc (own := [("other", 5)]) rfl nd (di_seq (de_var (i := 2))) (blkOk_by (N := nn__law_around) (sc := defScope (topS 44)) (by decide +kernel)) (fun _ _ _ _ _ => (dg_name 5 nd)) (fun _ _ _ _ _ => (dts_one (dt_val (de_call (ok_law_is_ahead T) takesF (hr.mono (by decide)) rfl T.m43 T.f43.kp T.b43 (da_cons (de_var (i := 0)) (da_cons (de_var (i := 5)) (da_cons (de_var (i := 3)) da_nil))))))) (fun _ _ _ _ _ => (de_var (i := 5)))) da_nil)))
 (ds_one (ds_set 2 nd (de_bin opD_add (de_bin opD_add (de_slice (de_var (i := 2)) do_none (do_some (de_var (i := 4)))) (de_lst (da_cons (de_var (i := 3)) da_nil))) (de_slice (de_var (i := 2)) (do_some (de_var (i := 4))) do_none))))))
 (ds_one (ds_ret (de_var (i := 2))))))
abbrev nn__law_common : List Str := ["a", "b", "turn"]
theorem sc__law_common : FnScope nn__law_common ["a", "b"] (defScope (topS 36)) := ⟨rfl, rfl, rfl, by decide +kernel, rfl, by decide +kernel, by decide +kernel⟩
noncomputable def B_law_common_0 : DS → SRes :=
 (mSeq
 (mIfS (mTest (mBin eqD (mVar 1) (mC (.int 0)))) mBreak mSkip)
 (mPar 0 1 (mCons (mVar 1) (mCons (mBin modD (mCB int1D (mCons (mVar 0) mNil)) (mVar 1)) mNil))))
noncomputable def M_law_common : DS → SRes :=
 (mSeq
 (mPar 0 1 (mCons (mCB absD (mCons (mVar 0) mNil)) (mCons (mCB absD (mCons (mVar 1) mNil)) mNil)))
 (mSeq
 (mFor (mFast (mCons (mC (.int 4000)) mNil) rng1) (tgN 2) B_law_common_0)
 (mRet (mVar 0))))
noncomputable def F_law_common : List D → FR := runF nn__law_common.length M_law_common
theorem ok_law_common (T : Txt K mg base g fd ca cP) : FnOk P w K mg base (L2N.CX P w) 1 (g 36) (fd 36) ["a", "b"] (spP g K 2 F_law_common) := by
  refine fn_p (N := nn__law_common) (lv := 0) (m := M_law_common) T.f36 sc__law_common fun cdv A outer s H E hr => ?_
  have nd : (nn__law_common : List Str).Nodup := sc__law_common.nd
  have hu := hr.units
  have hu5 := units65 hr
  have tk : L2N.Takes (cxOf (L2N.CX P w) P w K mg base nn__law_common "_law_common" (defScope (topS 36)) (g 36) cdv A outer s H E) (fun cls d _ H => E cls d H) := L2N.takes_of rfl rfl rfl rfl
  have po : PassesOwn (model P w) (cxOf (L2N.CX P w) P w K mg base nn__law_common "_law_common" (defScope (topS 36)) (g 36) cdv A outer s H E).A (cxOf (L2N.CX P w) P w K mg base nn__law_common "_law_common" (defScope (topS 36)) (g 36) cdv A outer s H E).env (cxOf (L2N.CX P w) P w K mg base nn__law_common "_law_common" (defScope (topS 36)) (g 36) cdv A outer s H E).xe := passes_of rfl
  exact (ds_cons
 (ds_par 0 1 rfl nd (da_cons (de_callBi callD_abs rfl T.z_abs bt_abs (da_cons (de_var (i := 0)) da_nil)) (da_cons (de_callBi callD_abs rfl T.z_abs bt_abs (da_cons (de_var (i := 1)) da_nil)) da_nil)))
 (ds_cons
 (ds_for po rfl (di_range1 rfl T.z_range (da_cons de_int da_nil)) (dg_name 2 nd) (ds_cons
 (ds_if (dt_cmp (opD_eq hu) (de_var (i := 1)) de_int) (ds_one ds_break) ds_nil)
 (ds_one (ds_par 0 1 rfl nd (da_cons (de_var (i := 1)) (da_cons (de_bin opD_mod (de_callTy callD_int rfl T.z_int bt_int (da_cons (de_var (i := 0)) da_nil)) (de_var (i := 1))) da_nil))))))
 (ds_one (ds_ret (de_var (i := 0))))))
abbrev nn__law_ratio : List Str := ["n", "d", "by"]
theorem sc__law_ratio : FnScope nn__law_ratio ["n", "d"] (defScope (topS 37)) := ⟨rfl, rfl, rfl, by decide +kernel, rfl, by decide +kernel, by decide +kernel⟩
noncomputable def M_law_ratio : DS → SRes :=
 (mSeq
 (mSet 2 (mCall 2 F_law_common (mCons (mVar 0) (mCons (mVar 1) mNil))))
 (mSeq
 (mIfS (mTest (mBin ltD (mVar 1) (mC (.int 0)))) (mSet 2 (mUn negD (mVar 2))) mSkip)
 (mRet (mTup (mCons (mBin fdivD (mVar 0) (mVar 2)) (mCons (mBin fdivD (mVar 1) (mVar 2)) mNil))))))
noncomputable def F_law_ratio : List D → FR := runF nn__law_ratio.length M_law_ratio
theorem ok_law_ratio (T : Txt K mg base g fd ca cP) : FnOk P w K mg base (L2N.CX P w) 2 (g 37) (fd 37) ["n", "d"] (spP g K 2 F_law_ratio) := by
  refine fn_p (N := nn__law_ratio) (lv := 1) (m := M_law_ratio) T.f37 sc__law_ratio fun cdv A outer s H E hr => ?_
  have nd : (nn__law_ratio : List Str).Nodup := sc__law_ratio.nd
  have hu := hr.units
  have hu5 := units65 hr
  have tk : L2N.Takes (cxOf (L2N.CX P w) P w K mg base nn__law_ratio "_law_ratio" (defScope (topS 37)) (g 37) cdv A outer s H E) (fun cls d _ H => E cls d H) := L2N.takes_of rfl rfl rfl rfl
  have po : PassesOwn (model P w) (cxOf (L2N.CX P w) P w K mg base nn__law_ratio "_law_ratio" (defScope (topS 37)) (g 37) cdv A outer s H E).A (cxOf (L2N.CX P w) P w K mg base nn__law_ratio "_law_ratio" (defScope (topS 37)) (g 37) cdv A outer s H E).env (cxOf (L2N.CX P w) P w K mg base nn__law_ratio "_law_ratio" (defScope (topS 37)) (g 37) cdv A outer s H E).xe := passes_of rfl
  exact (ds_cons
 (ds_set 2 nd (de_call (ok_law_common T) tk (hr.mono (by decide)) rfl T.m36 T.f36.kp T.b36 (da_cons (de_var (i := 0)) (da_cons (de_var (i := 1)) da_nil))))
 (ds_cons
 (ds_if (dt_cmp (opD_lt hu) (de_var (i := 1)) de_int) (ds_one (ds_set 2 nd (de_un unD_neg (de_var (i := 2))))) ds_nil)
 (ds_one (ds_ret (de_tup (da_cons (de_bin opD_fdiv (de_var (i := 0)) (de_var (i := 2))) (da_cons (de_bin opD_fdiv (de_var (i := 1)) (de_var (i := 2))) da_nil)))))))
abbrev nn__law_meeting : List Str := ["one", "other", "a", "b", "c", "d", "p", "q", "r", "s", "t", "u", "low"]
theorem sc__law_meeting : FnScope nn__law_meeting ["one", "other"] (defScope (topS 41)) := ⟨rfl, rfl, rfl, by decide +kernel, rfl, by decide +kernel, by decide +kernel⟩
noncomputable def M_law_meeting : DS → SRes :=
 (mSeq
 (mAsg (tgT 2 (tgCons (tgT 2 (tgCons (tgN 2) (tgCons (tgN 3) tgNil))) (tgCons (tgT 2 (tgCons (tgN 4) (tgCons (tgN 5) tgNil))) tgNil))) (mTup (mCons (mVar 0) (mCons (mVar 1) mNil))))
 (mSeq
 (mPar3 6 7 8 (mCons (mBin subE (mBin ixD (mVar 3) (mC (.int 1))) (mBin ixD (mVar 2) (mC (.int 1)))) (mCons (mBin subE (mBin ixD (mVar 2) (mC (.int 0))) (mBin ixD (mVar 3) (mC (.int 0)))) (mCons (mBin addD (mBin mulE (mBin subE (mBin ixD (mVar 3) (mC (.int 1))) (mBin ixD (mVar 2) (mC (.int 1)))) (mBin ixD (mVar 2) (mC (.int 0)))) (mBin mulE (mBin subE (mBin ixD (mVar 2) (mC (.int 0))) (mBin ixD (mVar 3) (mC (.int 0)))) (mBin ixD (mVar 2) (mC (.int 1))))) mNil))))
 (mSeq
 (mPar3 9 10 11 (mCons (mBin subE (mBin ixD (mVar 5) (mC (.int 1))) (mBin ixD (mVar 4) (mC (.int 1)))) (mCons (mBin subE (mBin ixD (mVar 4) (mC (.int 0))) (mBin ixD (mVar 5) (mC (.int 0)))) (mCons (mBin addD (mBin mulE (mBin subE (mBin ixD (mVar 5) (mC (.int 1))) (mBin ixD (mVar 4) (mC (.int 1)))) (mBin ixD (mVar 4) (mC (.int 0)))) (mBin mulE (mBin subE (mBin ixD (mVar 4) (mC (.int 0))) (mBin ixD (mVar 5) (mC (.int 0)))) (mBin ixD (mVar 4) (mC (.int 1))))) mNil))))
 (mSeq
 (mSet 12 (mBin subE (mBin mulE (mVar 6) (mVar 10)) (mBin mulE (mVar 7) (mVar 9))))
 (mSeq
 (mIfS (mTest (mBin eqD (mVar 12) (mC (.int 0)))) (mRet (mC .non)) mSkip)
 (mRet (mTup (mCons (mCall 2 F_law_ratio (mCons (mBin subE (mBin mulE (mVar 8) (mVar 10)) (mBin mulE (mVar 7) (mVar 11))) (mCons (mVar 12) mNil))) (mCons (mCall 2 F_law_ratio (mCons (mBin subE (mBin mulE (mVar 6) (mVar 11)) (mBin mulE (mVar 8) (mVar 9))) (mCons (mVar 12) mNil))) mNil)))))))))
noncomputable def F_law_meeting : List D → FR := runF nn__law_meeting.length M_law_meeting
theorem ok_law_meeting (T : Txt K mg base g fd ca cP) : FnOk P w K mg base (L2N.CX P w) 3 (g 41) (fd 41) ["one", "other"] (spP g K 2 F_law_meeting) := by
  refine fn_p (N := nn__law_meeting) (lv := 2) (m := M_law_meeting) T.f41 sc__law_meeting fun cdv A outer s H E hr => ?_
  have nd : (nn__law_meeting : List Str).Nodup := sc__law_meeting.nd
  have hu := hr.units
  have hu5 := units65 hr
  have tk : L2N.Takes (cxOf (L2N.CX P w) P w K mg base nn__law_meeting "_law_meeting" (defScope (topS 41)) (g 41) cdv A outer s H E) (fun cls d _ H => E cls d H) := L2N.takes_of rfl rfl rfl rfl
  have po : PassesOwn (model P w) (cxOf (L2N.CX P w) P w K mg base nn__law_meeting "_law_meeting" (defScope (topS 41)) (g 41) cdv A outer s H E).A (cxOf (L2N.CX P w) P w K mg base nn__law_meeting "_law_meeting" (defScope (topS 41)) (g 41) cdv A outer s H E).env (cxOf (L2N.CX P w) P w K mg base nn__law_meeting "_law_meeting" (defScope (topS 41)) (g 41) cdv A outer s H E).xe := passes_of rfl
  exact (ds_cons
 (ds_asg (de_tup (da_cons (de_var (i := 0)) (da_cons (de_var (i := 1)) da_nil))) (dg_tup rfl (dgs_cons (dg_tup rfl (dgs_cons (dg_name 2 nd) (dgs_cons (dg_name 3 nd) dgs_nil))) (dgs_cons (dg_tup rfl (dgs_cons (dg_name 4 nd) (dgs_cons (dg_name 5 nd) dgs_nil))) dgs_nil))))
 (ds_cons
 (ds_par3 6 7 8 rfl nd (da_cons (de_bin opD_subE (de_ix (de_var (i := 3)) de_int) (de_ix (de_var (i := 2)) de_int)) (da_cons (de_bin opD_subE (de_ix (de_var (i := 2)) de_int) (de_ix (de_var (i := 3)) de_int)) (da_cons (de_bin opD_add (de_bin opD_mulE (de_bin opD_subE (de_ix (de_var (i := 3)) de_int) (de_ix (de_var (i := 2)) de_int)) (de_ix (de_var (i := 2)) de_int)) (de_bin opD_mulE (de_bin opD_subE (de_ix (de_var (i := 2)) de_int) (de_ix (de_var (i := 3)) de_int)) (de_ix (de_var (i := 2)) de_int))) da_nil))))
 (ds_cons
 (ds_par3 9 10 11 rfl nd (da_cons (de_bin opD_subE (de_ix (de_var (i := 5)) de_int) (de_ix (de_var (i := 4)) de_int)) (da_cons (de_bin opD_subE (de_ix (de_var (i := 4)) de_int) (de_ix (de_var (i := 5)) de_int)) (da_cons (de_bin opD_add (de_bin opD_mulE (de_bin opD_subE (de_ix (de_var (i := 5)) de_int) (de_ix (de_var (i := 4)) de_int)) (de_ix (de_var (i := 4)) de_int)) (de_bin opD_mulE (de_bin opD_subE (de_ix (de_var (i := 4)) de_int) (de_ix (de_var (i := 5)) de_int)) (de_ix (de_var (i := 4)) de_int))) da_nil))))
 (ds_cons
 (ds_set 12 nd (de_bin opD_subE (de_bin opD_mulE (de_var (i := 6)) (de_var (i := 10))) (de_bin opD_mulE (de_var (i := 7)) (de_var (i := 9)))))
 (ds_cons
 (ds_if (dt_cmp (opD_eq hu) (de_var (i := 12)) de_int) (ds_one (ds_ret de_non)) ds_nil)
 (ds_one (ds_ret (de_tup (da_cons (de_call (ok_law_ratio T) tk (hr.mono (by decide)) rfl T.m37 T.f37.kp T.b37 (da_cons (de_bin opD_subE (de_bin opD_mulE (de_var (i := 8)) (de_var (i := 10))) (de_bin opD_mulE (de_var (i := 7)) (de_var (i := 11)))) (da_cons (de_var (i := 12)) da_nil))) (da_cons (de_call (ok_law_ratio T) tk (hr.mono (by decide)) rfl T.m37 T.f37.kp T.b37 (da_cons (de_bin opD_subE (de_bin opD_mulE (de_var (i := 6)) (de_var (i := 11))) (de_bin opD_mulE (de_var (i := 8)) (de_var (i := 9)))) (da_cons (de_var (i := 12)) da_nil))) da_nil))))))))))
abbrev nn_law : List Str := ["script", "draws", "refused", "not_there", "again", "spots", "some", "turn", "one", "other", "third", "asked", "a", "b", "center", "points", "kept", "wide", "due", "i", "j", "bad", "told", "cell", "point", "k"]
theorem sc_law : FnScope nn_law ["script"] (defScope (topS 46)) := ⟨rfl, rfl, rfl, by decide +kernel, rfl, by decide +kernel, by decide +kernel⟩
noncomputable def C_law_0 : DS → Res RV :=
 (mCB absD (mCons (mVar 23) mNil))
noncomputable def B_law_0 : DS → SRes :=
 (mIfS (mNotT (mTest (mCall 2 (F_law_same 6) (mCons (mCall 3 F_law_told (mCons (mC (.int 0)) (mCons (mVar 12) (mCons (mVar 13) mNil)))) (mCons (mCall 2 F_law_meeting (mCons (mVar 12) (mCons (mVar 13) mNil))) mNil))))) (mRet (mC (.bl false))) mSkip)
noncomputable def B_law_1 : DS → SRes :=
 (mSeq
 (mSet 8 (mCB tupleD (mCons (mSl (mCallB 2 F_law_mixed 1 (mCons (mSS3 (mVar 6)) mNil)) mNone (mSome (mC (.int 2)))) mNil)))
 (mSeq
 (mSet 9 (mCB tupleD (mCons (mSl (mCallB 2 F_law_mixed 1 (mCons (mSS3 (mVar 6)) mNil)) mNone (mSome (mC (.int 2)))) mNil)))
 (mSeq
 (mSet 10 (mTup (mCons (mTup (mCons (mBin ixD (mBin ixD (mVar 8) (mC (.int 0))) (mC (.int 0))) (mCons (mBin ixD (mBin ixD (mVar 8) (mC (.int 0))) (mC (.int 1))) mNil))) (mCons (mTup (mCons (mBin subE (mBin ixD (mBin ixD (mVar 8) (mC (.int 0))) (mC (.int 0))) (mBin mulE (mC (.int 2)) (mBin subE (mBin ixD (mBin ixD (mVar 8) (mC (.int 0))) (mC (.int 0))) (mBin ixD (mBin ixD (mVar 8) (mC (.int 1))) (mC (.int 0)))))) (mCons (mBin subE (mBin ixD (mBin ixD (mVar 8) (mC (.int 0))) (mC (.int 1))) (mBin mulE (mC (.int 2)) (mBin subE (mBin ixD (mBin ixD (mVar 8) (mC (.int 0))) (mC (.int 1))) (mBin ixD (mBin ixD (mVar 8) (mC (.int 1))) (mC (.int 1)))))) mNil))) mNil))))
 (mSeq
 (mSet 11 (mLst (mCons (mTup (mCons (mVar 8) (mCons (mVar 9) mNil))) (mCons (mTup (mCons (mVar 9) (mCons (mVar 8) mNil))) (mCons (mTup (mCons (mVar 8) (mCons (mRevT (mVar 8)) mNil))) mNil)))))
 (mSeq
 (mIfS (mTest (mBin leD (mCB maxX (mCons (mLc (mIter (mBin ixD (mVar 10) (mC (.int 1)))) [23] (tgN 23) mYes C_law_0) mNil)) (mC (.int 1000)))) (mSet 11 (mBin addD (mVar 11) (mLst (mCons (mTup (mCons (mVar 8) (mCons (mVar 10) mNil))) mNil)))) mSkip)
 (mFor (mIter (mVar 11)) (tgT 2 (tgCons (tgN 12) (tgCons (tgN 13) tgNil))) B_law_0))))))
noncomputable def Q_law_0 : DS → Res Bool :=
 (mTest (mBin neD (mVar 24) (mVar 14)))
noncomputable def C_law_1 : DS → Res RV :=
 (mTup (mCons (mBin subE (mCallB 2 F_law_take 1 (mCons (mC (.int 2001)) mNil)) (mC (.int 1000))) (mCons (mBin subE (mCallB 2 F_law_take 1 (mCons (mC (.int 2001)) mNil)) (mC (.int 1000))) mNil)))
noncomputable def C_law_2 : DS → Res RV :=
 (mTup (mCons (mBin ixD (mVar 5) (mVar 19)) (mCons (mBin ixD (mVar 5) (mVar 20)) (mCons (mVar 24) mNil))))
noncomputable def Q_law_1 : DS → Res Bool :=
 (mTest (mBin eqD (mCall 3 F_law_turn (mCons (mBin ixD (mVar 5) (mVar 19)) (mCons (mBin ixD (mVar 5) (mVar 20)) (mCons (mVar 24) mNil)))) (mC (.int 0))))
noncomputable def B_law_2 : DS → SRes :=
 (mSet 18 (mBin addD (mVar 18) (mLc (mIter (mSl (mVar 5) (mSome (mBin addD (mVar 20) (mC (.int 1)))) mNone)) [24] (tgN 24) Q_law_1 C_law_2)))
noncomputable def B_law_3 : DS → SRes :=
 (mFor (mFast (mCons (mBin addD (mVar 19) (mC (.int 1))) (mCons (mCB lenD (mCons (mVar 5) mNil)) mNil)) rng2) (tgN 20) B_law_2)
noncomputable def B_law_4 : DS → SRes :=
 (mSeq
 (mSet 5 (mCallB 2 F_law_spots 1 (mCons (mCallB 2 F_law_pick 1 (mCons (mLst (mCons (mC (.int 4)) (mCons (mC (.int 8)) (mCons (mC (.int 12)) mNil)))) mNil)) mNil)))
 (mSeq
 (mSet 6 (mBin addD (mCB listD (mCons (mVar 5) mNil)) (mLst (mCons (mTup (mCons (mC (.int 1)) (mCons (mC (.int 0)) mNil))) (mCons (mTup (mCons (mC (.int 0)) (mCons (mC (.int 3)) mNil))) mNil)))))
 (mSeq
 (mFor (mFast (mCons (mC (.int 5)) mNil) rng1) (tgN 7) B_law_1)
 (mSeq
 (mSet 14 (mCallB 2 F_law_pick 1 (mCons (mLst (mCons (mCallB 2 F_law_point 1 (mCons (mC (.int 3)) mNil)) (mCons (mTup (mCons (mC (.int 0)) (mCons (mC (.int 0)) mNil))) mNil))) mNil)))
 (mSeq
 (mSet 15 (mCallB 2 F_law_mixed 1 (mCons (mLc (mIter (mVar 5)) [24] (tgN 24) Q_law_0 (mVar 24)) mNil)))
 (mSeq
 (mSet 16 (mCB listD (mCons (mVar 15) mNil)))
 (mSeq
 (mIfS (mNotT (mTest (mCall 2 (F_law_same 6) (mCons (mLst (mCons (mCall 3 F_law_told (mCons (mC (.int 1)) (mCons (mVar 14) (mCons (mVar 15) mNil)))) (mCons (mVar 15) mNil))) (mCons (mLst (mCons (mCall 2 F_law_around (mCons (mVar 14) (mCons (mVar 15) mNil))) (mCons (mVar 16) mNil))) mNil))))) (mRet (mC (.bl false))) mSkip)
 (mSeq
 (mSet 17 (mSS3 (mBin addD (mLc (mFast (mCons (mC (.int 6)) mNil) rng1) [25] (tgN 25) mYes C_law_1) (mLst (mCons (mTup (mCons (mC (.int 999)) (mCons (mC (.int 1000)) mNil))) (mCons (mTup (mCons (mC (.int 998)) (mCons (mC (.int 999)) mNil))) (mCons (mTup (mCons (mC (.int 1000)) (mCons (mC (.int 1000)) mNil))) (mCons (mTup (mCons (mUn negD (mC (.int 999))) (mCons (mUn negD (mC (.int 1000))) mNil))) (mCons (mTup (mCons (mUn negD (mC (.int 998))) (mCons (mUn negD (mC (.int 999))) mNil))) (mCons (mTup (mCons (mC (.int 997)) (mCons (mC (.int 998)) mNil))) mNil))))))))))
 (mSeq
 (mSet 17 (mCallB 2 F_law_mixed 1 (mCons (mLc (mIter (mVar 17)) [24] (tgN 24) Q_law_0 (mVar 24)) mNil)))
 (mSeq
 (mIfS (mNotT (mTest (mCall 2 (F_law_same 6) (mCons (mCall 3 F_law_told (mCons (mC (.int 1)) (mCons (mVar 14) (mCons (mVar 17) mNil)))) (mCons (mCall 2 F_law_around (mCons (mVar 14) (mCons (mVar 17) mNil))) mNil))))) (mRet (mC (.bl false))) mSkip)
 (mSeq
 (mSet 18 (mLst mNil))
 (mSeq
 (mFor (mFast (mCons (mCB lenD (mCons (mVar 5) mNil)) mNil) rng1) (tgN 19) B_law_3)
 (mSeq
 (mIfS (mNotT (mTest (mCall 2 (F_law_same 6) (mCons (mLst (mCons (mCall 3 F_law_told (mCons (mC (.int 2)) (mCons (mVar 5) (mCons (mC (.int 0)) mNil)))) (mCons (mCall 3 F_law_told (mCons (mC (.int 1)) (mCons (mVar 14) (mCons (mLst mNil) mNil)))) mNil))) (mCons (mLst (mCons (mVar 18) (mCons (mLst mNil) mNil))) mNil))))) (mRet (mC (.bl false))) mSkip)
 (mSeq
 (mSet 21 (mCallB 2 F_law_pick 1 (mCons (mLst (mCons (mC .non) (mCons (mTup (mCons (mC (.int 1001)) (mCons (mC (.int 0)) mNil))) (mCons (mTup (mCons (mC (.int 0)) mNil)) (mCons (mLst (mCons (mC (.int 0)) (mCons (mC (.int 0)) mNil))) (mCons (mTup (mCons (mC (.bl true)) (mCons (mC (.int 1)) mNil))) mNil)))))) mNil)))
 (mSeq
 (mSet 22 (mLst (mCons (mCall 3 F_law_told (mCons (mC (.int 1)) (mCons (mVar 21) (mCons (mVar 15) mNil)))) (mCons (mCall 3 F_law_told (mCons (mC (.int 1)) (mCons (mVar 14) (mCons (mBin addD (mVar 15) (mLst (mCons (mVar 21) mNil))) mNil)))) (mCons (mCall 3 F_law_told (mCons (mC (.int 0)) (mCons (mTup (mCons (mTup (mCons (mC (.int 0)) (mCons (mC (.int 0)) mNil))) (mCons (mTup (mCons (mC (.int 0)) (mCons (mC (.int 0)) mNil))) mNil))) (mCons (mVar 8) mNil)))) (mCons (mCall 3 F_law_told (mCons (mC (.int 0)) (mCons (mVar 8) (mCons (mTup (mCons (mVar 21) (mCons (mTup (mCons (mC (.int 0)) (mCons (mC (.int 0)) mNil))) mNil))) mNil)))) mNil))))))
 (mSeq
 (mSet 22 (mBin addD (mVar 22) (mLst (mCons (mCall 3 F_law_told (mCons (mC (.int 0)) (mCons (mC .non) (mCons (mVar 8) mNil)))) (mCons (mCall 3 F_law_told (mCons (mC (.int 2)) (mCons (mBin addD (mRevT (mVar 5)) (mTup (mCons (mTup (mCons (mC (.int 0)) (mCons (mC (.int 0)) mNil))) (mCons (mTup (mCons (mC (.int 0)) (mCons (mC (.int 0)) mNil))) mNil)))) (mCons (mC (.int 0)) mNil)))) (mCons (mCall 3 F_law_told (mCons (mC (.int 2)) (mCons (mCB listD (mCons (mVar 5) mNil)) (mCons (mC (.int 0)) mNil)))) mNil))))))
 (mIfS (mOrT (mNotT (mTest (mCall 2 (F_law_same 6) (mCons (mVar 22) (mCons (mBin mulE (mLst (mCons (mVar 2) mNil)) (mC (.int 7))) mNil))))) (mNotT (mTest (mCall 2 (F_law_same 6) (mCons (mCall 3 F_law_told (mCons (mC (.int 1)) (mCons (mVar 14) (mCons (mBin addD (mVar 15) (mLst (mCons (mVar 14) mNil))) mNil)))) (mCons (mVar 3) mNil)))))) (mRet (mC (.bl false))) mSkip)))))))))))))))))
noncomputable def M_law : DS → SRes :=
 (mSeq
 (mSet 1 (mCall 1 F_law_draws (mCons (mVar 0) mNil)))
 (mSeq
 (mPar 2 3 (mCons (mLst (mCons (mC (.bl true)) (mCons (mC (.bl false)) (mCons (mC (.bl false)) (mCons (mC (.bl false)) (mCons (mC (.bl false)) mNil)))))) (mCons (mLst (mCons (mC (.bl false)) (mCons (mC (.bl true)) (mCons (mC (.bl false)) (mCons (mC (.bl false)) (mCons (mC (.bl false)) mNil)))))) mNil)))
 (mSeq
 (mFor (mFast (mCons (mC (.int 3)) mNil) rng1) (tgN 4) B_law_4)
 (mRet (mC (.bl true))))))
noncomputable def F_law : List D → FR := runF nn_law.length M_law
theorem ok_law (T : Txt K mg base g fd ca cP) : FnOk P w K mg base (L2N.CX P w) 10 (g 46) (fd 46) ["script"] (spP g K 1 F_law) := by
  refine fn_p (N := nn_law) (lv := 9) (m := M_law) T.f46 sc_law fun cdv A outer s H E hr => ?_
  have nd : (nn_law : List Str).Nodup := sc_law.nd
  have hu := hr.units
  have hu5 := units65 hr
  have tk : L2N.Takes (cxOf (L2N.CX P w) P w K mg base nn_law "law" (defScope (topS 46)) (g 46) cdv A outer s H E) (fun cls d _ H => E cls d H) := L2N.takes_of rfl rfl rfl rfl
  have po : PassesOwn (model P w) (cxOf (L2N.CX P w) P w K mg base nn_law "law" (defScope (topS 46)) (g 46) cdv A outer s H E).A (cxOf (L2N.CX P w) P w K mg base nn_law "law" (defScope (topS 46)) (g 46) cdv A outer s H E).env (cxOf (L2N.CX P w) P w K mg base nn_law "law" (defScope (topS 46)) (g 46) cdv A outer s H E).xe := passes_of rfl
  exact (ds_cons
 (ds_set 1 nd (de_call (ok_law_draws T) tk (hr.mono (by decide)) rfl T.m30 T.f30.kp T.b30 (da_cons (de_var (i := 0)) da_nil)))
 (ds_cons
 (ds_par 2 3 rfl nd (da_cons (de_lst (da_cons de_bl (da_cons de_bl (da_cons de_bl (da_cons de_bl (da_cons de_bl da_nil)))))) (da_cons (de_lst (da_cons de_bl (da_cons de_bl (da_cons de_bl (da_cons de_bl (da_cons de_bl da_nil)))))) da_nil)))
 (ds_cons
 (ds_for po rfl (di_range1 rfl T.z_range (da_cons de_int da_nil)) (dg_name 4 nd) (ds_cons
 (ds_set 5 nd (de_callB 1 (ok_law_spots T) tk (hr.mono (by decide)) rfl T.m40 T.f40.kp T.b40 (da_cons (de_callB 1 (ok_law_pick T) tk (hr.mono (by decide)) rfl T.m32 T.f32.kp T.b32 (da_cons (de_lst (da_cons de_int (da_cons de_int (da_cons de_int da_nil)))) da_nil)) da_nil)))
 (ds_cons
 (ds_set 6 nd (de_bin opD_add (de_callTy callD_list rfl T.z_list bt_list (da_cons (de_var (i := 5)) da_nil)) (de_lst (da_cons (de_tup (da_cons de_int (da_cons de_int da_nil))) (da_cons (de_tup (da_cons de_int (da_cons de_int da_nil))) da_nil)))))
 (ds_cons
 (ds_for po rfl (di_range1 rfl T.z_range (da_cons de_int da_nil)) (dg_name 7 nd) (ds_cons
 (ds_set 8 nd (de_callTy callD_tuple rfl T.z_tuple bt_tuple (da_cons (de_slice (de_callB 1 (ok_law_mixed T) tk (hr.mono (by decide)) rfl T.m35 T.f35.kp T.b35 (da_cons (de_sset3 rfl hu5 rfl T.z_sorted rfl T.z_set (de_var (i := 6))) da_nil)) do_none (do_some de_int)) da_nil)))
 (ds_cons
 (ds_set 9 nd (de_callTy callD_tuple rfl T.z_tuple bt_tuple (da_cons (de_slice (de_callB 1 (ok_law_mixed T) tk (hr.mono (by decide)) rfl T.m35 T.f35.kp T.b35 (da_cons (de_sset3 rfl hu5 rfl T.z_sorted rfl T.z_set (de_var (i := 6))) da_nil)) do_none (do_some de_int)) da_nil)))
 (ds_cons
 (ds_set 10 nd (de_tup (da_cons (de_tup (da_cons (de_ix (de_ix (de_var (i := 8)) de_int) de_int) (da_cons (de_ix (de_ix (de_var (i := 8)) de_int) de_int) da_nil))) (da_cons (de_tup (da_cons (de_bin opD_subE (de_ix (de_ix (de_var (i := 8)) de_int) de_int) (de_bin opD_mulE de_int (de_bin opD_subE (de_ix (de_ix (de_var (i := 8)) de_int) de_int) (de_ix (de_ix (de_var (i := 8)) de_int) de_int)))) (da_cons (de_bin opD_subE (de_ix (de_ix (de_var (i := 8)) de_int) de_int) (de_bin opD_mulE de_int (de_bin opD_subE (de_ix (de_ix (de_var (i := 8)) de_int) de_int) (de_ix (de_ix (de_var (i := 8)) de_int) de_int)))) da_nil))) da_nil))))
 (ds_cons
 (ds_set 11 nd (de_lst (da_cons (de_tup (da_cons (de_var (i := 8)) (da_cons (de_var (i := 9)) da_nil))) (da_cons (de_tup (da_cons (de_var (i := 9)) (da_cons (de_var (i := 8)) da_nil))) (da_cons (de_tup (da_cons (de_var (i := 8)) (da_cons (de_revT (de_var (i := 8))) da_nil))) da_nil)))))
 (ds_cons
 (ds_if (dt_cmp opD_le (de_callBi (callD_maxX rfl hu5) rfl T.z_max bt_max (da_cons (de_lc (own := [("cell", 23)]) rfl nd (di_seq (de_ix (de_var (i := 10)) de_int)) (blkOk_by (N := nn_law) (sc := defScope (topS 46)) (by decide +kernel)) (fun _ _ _ _ _ => (dg_name 23 nd)) (fun _ _ _ _ _ => dts_nil) (fun _ _ _ _ _ => (de_callBi callD_abs rfl T.z_abs bt_abs (da_cons (de_var (i := 23)) da_nil)))) da_nil)) de_int) (ds_one (ds_set 11 nd (de_bin opD_add (de_var (i := 11)) (de_lst (da_cons (de_tup (da_cons (de_var (i := 8)) (da_cons (de_var (i := 10)) da_nil))) da_nil))))) ds_nil)
 (ds_one (ds_for po rfl (di_seq (de_var (i := 11))) (dg_tup rfl (dgs_cons (dg_name 12 nd) (dgs_cons (dg_name 13 nd) dgs_nil))) (ds_one (ds_if (dt_not (dt_val (de_call (ok_law_same T 6) tk (hr.mono (by decide)) rfl T.m33 T.f33.kp T.b33 (da_cons (de_call (ok_law_told T) tk (hr.mono (by decide)) rfl T.m45 T.f45.kp T.b45 (da_cons de_int (da_cons (de_var (i := 12)) (da_cons (de_var (i := 13)) da_nil)))) (da_cons (de_call (ok_law_meeting T) tk (hr.mono (by decide)) rfl T.m41 T.f41.kp T.b41 (da_cons (de_var (i := 12)) (da_cons (de_var (i := 13)) da_nil))) da_nil))))) (ds_one (ds_ret de_bl)) ds_nil))))))))))
 (ds_cons
 (ds_set 14 nd (de_callB 1 (ok_law_pick T) tk (hr.mono (by decide)) rfl T.m32 T.f32.kp T.b32 (da_cons (de_lst (da_cons (de_callB 1 (ok_law_point T) tk (hr.mono (by decide)) rfl T.m39 T.f39.kp T.b39 (da_cons de_int da_nil)) (da_cons (de_tup (da_cons de_int (da_cons de_int da_nil))) da_nil))) da_nil)))
 (ds_cons
 (ds_set 15 nd (de_callB 1 (ok_law_mixed T) tk (hr.mono (by decide)) rfl T.m35 T.f35.kp T.b35 (da_cons (de_lc (own := [("point", 24)]) rfl nd (di_seq (de_var (i := 5))) (blkOk_by (N := nn_law) (sc := defScope (topS 46)) (by decide +kernel)) (fun _ _ _ _ _ => (dg_name 24 nd)) (fun _ _ _ _ _ => (dts_one (dt_cmp (opD_ne hu) (de_var (i := 24)) (de_var (i := 14))))) (fun _ _ _ _ _ => (de_var (i := 24)))) da_nil)))
 (ds_cons
 (ds_set 16 nd (de_callTy callD_list rfl T.z_list bt_list (da_cons (de_var (i := 15)) da_nil)))
 (ds_cons
 (ds_if (dt_not (dt_val (de_call (ok_law_same T 6) tk (hr.mono (by decide)) rfl T.m33 T.f33.kp T.b33 (da_cons (de_lst (da_cons (de_call (ok_law_told T) tk (hr.mono (by decide)) rfl T.m45 T.f45.kp T.b45 (da_cons de_int (da_cons (de_var (i := 14)) (da_cons (de_var (i := 15)) da_nil)))) (da_cons (de_var (i := 15)) da_nil))) (da_cons (de_lst (da_cons (de_call (ok_law_around T) tk (hr.mono (by decide)) rfl T.m44 T.f44.kp T.b44 (da_cons (de_var (i := 14)) (da_cons (de_var (i := 15)) da_nil))) (da_cons (de_var (i := 16)) da_nil))) da_nil))))) (ds_one (ds_ret de_bl)) ds_nil)
 (ds_cons
 (ds_set 17 nd (de_sset3 rfl hu5 rfl T.z_sorted rfl T.z_set (de_bin opD_add (de_lc (own := [("k", 25)]) rfl nd (di_range1 rfl T.z_range (da_cons de_int da_nil)) (blkOk_by (N := nn_law) (sc := defScope (topS 46)) (by decide +kernel)) (fun _ _ _ _ _ => (dg_name 25 nd)) (fun _ _ _ _ _ => dts_nil) (fun _ _ _ _ _ => (de_tup (da_cons (de_bin opD_subE (de_callB 1 (ok_law_take T) takesF (hr.mono (by decide)) rfl T.m31 T.f31.kp T.b31 (da_cons de_int da_nil)) de_int) (da_cons (de_bin opD_subE (de_callB 1 (ok_law_take T) takesF (hr.mono (by decide)) rfl T.m31 T.f31.kp T.b31 (da_cons de_int da_nil)) de_int) da_nil))))) (de_lst (da_cons (de_tup (da_cons de_int (da_cons de_int da_nil))) (da_cons (de_tup (da_cons de_int (da_cons de_int da_nil))) (da_cons (de_tup (da_cons de_int (da_cons de_int da_nil))) (da_cons (de_tup (da_cons (de_un unD_neg de_int) (da_cons (de_un unD_neg de_int) da_nil))) (da_cons (de_tup (da_cons (de_un unD_neg de_int) (da_cons (de_un unD_neg de_int) da_nil))) (da_cons (de_tup (da_cons de_int (da_cons de_int da_nil))) da_nil))))))))))
 (ds_cons
 (ds_set 17 nd (de_callB 1 (ok_law_mixed T) tk (hr.mono (by decide)) rfl T.m35 T.f35.kp T.b35 (da_cons (de_lc (own := [("point", 24)]) rfl nd (di_seq (de_var (i := 17))) (blkOk_by (N := nn_law) (sc := defScope (topS 46)) (by decide +kernel)) (fun _ _ _ _ _ => (dg_name 24 nd)) (fun _ _ _ _ _ => (dts_one (dt_cmp (opD_ne hu) (de_var (i := 24)) (de_var (i := 14))))) (fun _ _ _ _ _ => (de_var (i := 24)))) da_nil)))
 (ds_cons
 (ds_if (dt_not (dt_val (de_call (ok_law_same T 6) tk (hr.mono (by decide)) rfl T.m33 T.f33.kp T.b33 (da_cons (de_call (ok_law_told T) tk (hr.mono (by decide)) rfl T.m45 T.f45.kp T.b45 (da_cons de_int (da_cons (de_var (i := 14)) (da_cons (de_var (i := 17)) da_nil)))) (da_cons (de_call (ok_law_around T) tk (hr.mono (by decide)) rfl T.m44 T.f44.kp T.b44 (da_cons (de_var (i := 14)) (da_cons (de_var (i := 17)) da_nil))) da_nil))))) (ds_one (ds_ret de_bl)) ds_nil)
 (ds_cons
 (ds_set 18 nd (de_lst da_nil))
 (ds_cons
 (ds_for po rfl (di_range1 rfl T.z_range (da_cons (de_callBi callD_len rfl T.z_len bt_len (da_cons (de_var (i := 5)) da_nil)) da_nil)) (dg_name 19 nd) (ds_one (ds_for po rfl (di_range2 rfl T.z_range (da_cons (de_bin opD_add (de_var (i := 19)) de_int) (da_cons (de_callBi callD_len rfl T.z_len bt_len (da_cons (de_var (i := 5)) da_nil)) da_nil))) (dg_name 20 nd) (ds_one (ds_set 18 nd (de_bin opD_add (de_var (i := 18)) (de_lc (own := [("point", 24)]) rfl nd (di_seq (de_slice (de_var (i := 5)) (do_some (de_bin opD_add (de_var (i := 20)) de_int)) do_none)) (blkOk_by (N := nn_law) (sc := defScope (topS 46)) (by decide +kernel)) (fun _ _ _ _ _ => (dg_name 24 nd)) (fun _ _ _ _ _ => (dts_one (dt_cmp (opD_eq hu) (de_call (ok_law_turn T) takesF (hr.mono (by decide)) rfl T.m38 T.f38.kp T.b38 (da_cons (de_ix (de_var (i := 5)) (de_var (i := 19))) (da_cons (de_ix (de_var (i := 5)) (de_var (i := 20))) (da_cons (de_var (i := 24)) da_nil)))) de_int))) (fun _ _ _ _ _ => (de_tup (da_cons (de_ix (de_var (i := 5)) (de_var (i := 19))) (da_cons (de_ix (de_var (i := 5)) (de_var (i := 20))) (da_cons (de_var (i := 24)) da_nil))))))))))))
 (ds_cons
 (ds_if (dt_not (dt_val (de_call (ok_law_same T 6) tk (hr.mono (by decide)) rfl T.m33 T.f33.kp T.b33 (da_cons (de_lst (da_cons (de_call (ok_law_told T) tk (hr.mono (by decide)) rfl T.m45 T.f45.kp T.b45 (da_cons de_int (da_cons (de_var (i := 5)) (da_cons de_int da_nil)))) (da_cons (de_call (ok_law_told T) tk (hr.mono (by decide)) rfl T.m45 T.f45.kp T.b45 (da_cons de_int (da_cons (de_var (i := 14)) (da_cons (de_lst da_nil) da_nil)))) da_nil))) (da_cons (de_lst (da_cons (de_var (i := 18)) (da_cons (de_lst da_nil) da_nil))) da_nil))))) (ds_one (ds_ret de_bl)) ds_nil)
 (ds_cons
 (ds_set 21 nd (de_callB 1 (ok_law_pick T) tk (hr.mono (by decide)) rfl T.m32 T.f32.kp T.b32 (da_cons (de_lst (da_cons de_non (da_cons (de_tup (da_cons de_int (da_cons de_int da_nil))) (da_cons (de_tup (da_cons de_int da_nil)) (da_cons (de_lst (da_cons de_int (da_cons de_int da_nil))) (da_cons (de_tup (da_cons de_bl (da_cons de_int da_nil))) da_nil)))))) da_nil)))
 (ds_cons
 (ds_set 22 nd (de_lst (da_cons (de_call (ok_law_told T) tk (hr.mono (by decide)) rfl T.m45 T.f45.kp T.b45 (da_cons de_int (da_cons (de_var (i := 21)) (da_cons (de_var (i := 15)) da_nil)))) (da_cons (de_call (ok_law_told T) tk (hr.mono (by decide)) rfl T.m45 T.f45.kp T.b45 (da_cons de_int (da_cons (de_var (i := 14)) (da_cons (de_bin opD_add (de_var (i := 15)) (de_lst (da_cons (de_var (i := 21)) da_nil))) da_nil)))) (da_cons (de_call (ok_law_told T) tk (hr.mono (by decide)) rfl T.m45 T.f45.kp T.b45 (da_cons de_int (da_cons (de_tup (da_cons (de_tup (da_cons de_int (da_cons de_int da_nil))) (da_cons (de_tup (da_cons de_int (da_cons de_int da_nil))) da_nil))) (da_cons (de_var (i := 8)) da_nil)))) (da_cons (de_call (ok_law_told T) tk (hr.mono (by decide)) rfl T.m45 T.f45.kp T.b45 (da_cons de_int (da_cons (de_var (i := 8)) (da_cons (de_tup (da_cons (de_var (i := 21)) (da_cons (de_tup (da_cons de_int (da_cons de_int da_nil))) da_nil))) da_nil)))) da_nil))))))
 (ds_cons
 (ds_set 22 nd (de_bin opD_add (de_var (i := 22)) (de_lst (da_cons (de_call (ok_law_told T) tk (hr.mono (by decide)) rfl T.m45 T.f45.kp T.b45 (da_cons de_int (da_cons de_non (da_cons (de_var (i := 8)) da_nil)))) (da_cons (de_call (ok_law_told T) tk (hr.mono (by decide)) rfl T.m45 T.f45.kp T.b45 (da_cons de_int (da_cons (de_bin opD_add (de_revT (de_var (i := 5))) (de_tup (da_cons (de_tup (da_cons de_int (da_cons de_int da_nil))) (da_cons (de_tup (da_cons de_int (da_cons de_int da_nil))) da_nil)))) (da_cons de_int da_nil)))) (da_cons (de_call (ok_law_told T) tk (hr.mono (by decide)) rfl T.m45 T.f45.kp T.b45 (da_cons de_int (da_cons (de_callTy callD_list rfl T.z_list bt_list (da_cons (de_var (i := 5)) da_nil)) (da_cons de_int da_nil)))) da_nil))))))
 (ds_one (ds_if (dt_w (dw_or (dt_not (dt_val (de_call (ok_law_same T 6) tk (hr.mono (by decide)) rfl T.m33 T.f33.kp T.b33 (da_cons (de_var (i := 22)) (da_cons (de_bin opD_mulE (de_lst (da_cons (de_var (i := 2)) da_nil)) de_int) da_nil))))) (dw_or1 (dt_not (dt_val (de_call (ok_law_same T 6) tk (hr.mono (by decide)) rfl T.m33 T.f33.kp T.b33 (da_cons (de_call (ok_law_told T) tk (hr.mono (by decide)) rfl T.m45 T.f45.kp T.b45 (da_cons de_int (da_cons (de_var (i := 14)) (da_cons (de_bin opD_add (de_var (i := 15)) (de_lst (da_cons (de_var (i := 14)) da_nil))) da_nil)))) (da_cons (de_var (i := 3)) da_nil)))))))) (ds_one (ds_ret de_bl)) ds_nil)))))))))))))))))))
 (ds_one (ds_ret de_bl)))))
end
end Lw
set_option maxHeartbeats 1000000
namespace Lw
open PySem DL
def isInt (d : D) : Bool := match d with
  | .int _ => true
  | _ => false
def plain (d : D) : Bool := match d with
  | .int _ => true
  | .bl _ => true
  | .non => true
  | .str _ => true
  | .lst _ => true
  | .tup _ => true
  | _ => false
theorem e_is_integer {d : D} (h : plain d = true) : F_is_integer [d] = .ok (.dat (.bl (isInt d))) := by
  unfold F_is_integer M_is_integer
  cases d <;> first | (cases h; done) | skip
  all_goals simp only [v_bok,v_berr,v_sok,v_serr,v_nx,v_rt,v_bk,v_ct,v_er,v_ofs,v_var,v_slot_dat,v_slot_own,v_c,v_bin,v_kbin,v_op2,v_pk2,v_un,v_op1,v_pk1,v_peek_dat,v_peek_fr,v_peek_slot,v_pslot_own,v_pslot_dat,v_cnl,v_test,v_ktest,v_and,v_kAnd1,v_kAnd0,v_not,v_knot,v_nil,v_cons,v_kcons,v_kcons2,v_all0,v_all1,v_kall,v_kall2,v_force_dat,v_force_fr,v_force_slot,v_fslot_own,v_fslot_dat,v_at_ok,v_at_err,v_vB,v_atB,v_vM2,v_vM3,v_pkL,v_peeks0,v_peeks1,v_cons22,v_isi,v_it_l,v_it_r,v_it_t,v_ret,v_ret_dat,v_ret_fr,v_ret_slot,v_rslot_own,v_rslot_dat,v_retN,v_put_dat,v_put_fr,v_put_slot,v_kput,v_tgN,v_tgNil,v_tgCons,v_ktg,v_tgT,v_runF,v_endF_rt,v_endF_nx,v_endF_er,v_runB,v_endB_rt,v_endB_nx,v_add,v_sub,v_mod,v_neg,v_lt,v_cmp,v_eq,v_ne,v_len_l,v_len_t,v_len_r,v_ixt,v_ixl,v_ixr,v_kb_NoneType_bool,v_kb_NoneType_int,v_kb_NoneType_str,v_kb_NoneType_tuple,v_kb_NoneType_list,v_kb_NoneType_dict,v_kb_bool_bool,v_kb_bool_int,v_kb_bool_str,v_kb_bool_tuple,v_kb_bool_list,v_kb_bool_dict,v_kb_int_bool,v_kb_int_int,v_kb_int_str,v_kb_int_tuple,v_kb_int_list,v_kb_int_dict,v_kb_str_bool,v_kb_str_int,v_kb_str_str,v_kb_str_tuple,v_kb_str_list,v_kb_str_dict,v_kb_tuple_bool,v_kb_tuple_int,v_kb_tuple_str,v_kb_tuple_tuple,v_kb_tuple_list,v_kb_tuple_dict,v_kb_list_bool,v_kb_list_int,v_kb_list_str,v_kb_list_tuple,v_kb_list_list,v_kb_list_dict,v_kb_dict_bool,v_kb_dict_int,v_kb_dict_str,v_kb_dict_tuple,v_kb_dict_list,v_kb_dict_dict,v_isi_non,v_isi_bl,v_isi_int,v_isi_str,v_isi_tup,v_isi_lst,v_isi_dct,v_eq_bb,v_ne_bb,v_subE_i,List.map_cons,List.map_nil,List.length_cons,List.length_nil,List.cons_append,List.nil_append,List.replicate_succ,List.replicate_zero,List.getElem?_cons_zero,List.getElem?_cons_succ,List.set_cons_zero,List.set_cons_succ,Option.map_some,Nat.reduceSub,Nat.reduceAdd,Nat.reduceLT,Nat.reduceLeDiff,bigN]
  all_goals first | rfl | simp [isInt]
theorem e_take {l : List Int} {b : Int} (hb : 0 < b) (hl : ∀ x ∈ l, 0 ≤ x) : ∃ (v : Int) (l' : List Int), F_law_take (.lst (l.map D.int)) [.int b] = .ok (.dat (.int v)) (.lst (l'.map D.int)) ∧ 0 ≤ v ∧ v < b ∧ ∀ x ∈ l', 0 ≤ x := by
  unfold F_law_take M_law_take
  by_cases hn : l = []
  · subst hn
    refine ⟨0, [], ?_, Int.le_refl 0, hb, hl⟩
    simp only [v_bok,v_berr,v_sok,v_serr,v_nx,v_rt,v_bk,v_ct,v_er,v_ofs,v_var,v_slot_dat,v_slot_own,v_c,v_bin,v_kbin,v_op2,v_pk2,v_un,v_op1,v_pk1,v_peek_dat,v_peek_fr,v_peek_slot,v_pslot_own,v_pslot_dat,v_cnl,v_test,v_ktest,v_nil,v_cons,v_kcons,v_kcons2,v_fast,v_kfast,v_all0,v_all1,v_kall,v_kall2,v_force_dat,v_force_fr,v_force_slot,v_fslot_own,v_fslot_dat,v_at_ok,v_at_err,v_vB,v_atB,v_meth,v_vM,v_methAt,v_vM2,v_vM3,v_pop,v_cb,v_kcb,v_pkL,v_peeks0,v_peeks1,v_cons22,v_it_l,v_it_r,v_it_t,v_seq,v_skip,v_ret,v_ret_dat,v_ret_fr,v_ret_slot,v_rslot_own,v_rslot_dat,v_retN,v_ifS,v_kifS1,v_kifS0,v_put_dat,v_put_fr,v_put_slot,v_kput,v_tgN,v_tgNil,v_tgCons,v_ktg,v_tgT,v_runF,v_endF_rt,v_endF_nx,v_endF_er,v_runB,v_endB_rt,v_endB_nx,v_add,v_sub,v_mod,v_neg,v_lt,v_cmp,v_eq,v_ne,v_int1,v_len_l,v_len_t,v_len_r,v_ixt,v_ixl,v_ixr,v_eq_bb,v_ne_bb,v_subE_i,v_int1_1,v_int1_0,List.map_cons,List.map_nil,List.length_cons,List.length_nil,List.cons_append,List.nil_append,List.replicate_succ,List.replicate_zero,List.getElem?_cons_zero,List.getElem?_cons_succ,List.set_cons_zero,List.set_cons_succ,Option.map_some,Nat.reduceSub,Nat.reduceAdd,Nat.reduceLT,Nat.reduceLeDiff,bigN]
    rfl
  · obtain ⟨l0, x, rfl⟩ : ∃ l0 x, l = l0 ++ [x] := ⟨l.dropLast, l.getLast hn, (List.dropLast_concat_getLast hn).symm⟩
    refine ⟨x.fmod b, l0, ?_, Int.fmod_nonneg_of_pos _ hb, Int.fmod_lt_of_pos _ hb, fun y hy => hl y (by simp [hy])⟩
    have hb0 : b ≠ 0 := by omega
    have e0 : ((((l0 ++ [x]).map D.int).length : Int) == 0) = false := by simp; omega
    simp only [v_bok,v_berr,v_sok,v_serr,v_nx,v_rt,v_bk,v_ct,v_er,v_ofs,v_var,v_slot_dat,v_slot_own,v_c,v_bin,v_kbin,v_op2,v_pk2,v_un,v_op1,v_pk1,v_peek_dat,v_peek_fr,v_peek_slot,v_pslot_own,v_pslot_dat,v_cnl,v_test,v_ktest,v_nil,v_cons,v_kcons,v_kcons2,v_fast,v_kfast,v_all0,v_all1,v_kall,v_kall2,v_force_dat,v_force_fr,v_force_slot,v_fslot_own,v_fslot_dat,v_at_ok,v_at_err,v_vB,v_atB,v_meth,v_vM,v_methAt,v_vM2,v_vM3,v_pop,v_cb,v_kcb,v_pkL,v_peeks0,v_peeks1,v_cons22,v_it_l,v_it_r,v_it_t,v_seq,v_skip,v_ret,v_ret_dat,v_ret_fr,v_ret_slot,v_rslot_own,v_rslot_dat,v_retN,v_ifS,v_kifS1,v_kifS0,v_put_dat,v_put_fr,v_put_slot,v_kput,v_tgN,v_tgNil,v_tgCons,v_ktg,v_tgT,v_runF,v_endF_rt,v_endF_nx,v_endF_er,v_runB,v_endB_rt,v_endB_nx,v_add,v_sub,v_mod,v_neg,v_lt,v_cmp,v_eq,v_ne,v_int1,v_len_l,v_len_t,v_len_r,v_ixt,v_ixl,v_ixr,v_eq_bb,v_ne_bb,v_subE_i,v_int1_1,v_int1_0,List.map_cons,List.map_nil,List.length_cons,List.length_nil,List.cons_append,List.nil_append,List.replicate_succ,List.replicate_zero,List.getElem?_cons_zero,List.getElem?_cons_succ,List.set_cons_zero,List.set_cons_succ,Option.map_some,Nat.reduceSub,Nat.reduceAdd,Nat.reduceLT,Nat.reduceLeDiff,bigN, nn__law_take, e0]
    rw [List.map_append]
    simp only [v_bok,v_berr,v_sok,v_serr,v_nx,v_rt,v_bk,v_ct,v_er,v_ofs,v_var,v_slot_dat,v_slot_own,v_c,v_bin,v_kbin,v_op2,v_pk2,v_un,v_op1,v_pk1,v_peek_dat,v_peek_fr,v_peek_slot,v_pslot_own,v_pslot_dat,v_cnl,v_test,v_ktest,v_nil,v_cons,v_kcons,v_kcons2,v_fast,v_kfast,v_all0,v_all1,v_kall,v_kall2,v_force_dat,v_force_fr,v_force_slot,v_fslot_own,v_fslot_dat,v_at_ok,v_at_err,v_vB,v_atB,v_meth,v_vM,v_methAt,v_vM2,v_vM3,v_pop,v_cb,v_kcb,v_pkL,v_peeks0,v_peeks1,v_cons22,v_it_l,v_it_r,v_it_t,v_seq,v_skip,v_ret,v_ret_dat,v_ret_fr,v_ret_slot,v_rslot_own,v_rslot_dat,v_retN,v_ifS,v_kifS1,v_kifS0,v_put_dat,v_put_fr,v_put_slot,v_kput,v_tgN,v_tgNil,v_tgCons,v_ktg,v_tgT,v_runF,v_endF_rt,v_endF_nx,v_endF_er,v_runB,v_endB_rt,v_endB_nx,v_add,v_sub,v_mod,v_neg,v_lt,v_cmp,v_eq,v_ne,v_int1,v_len_l,v_len_t,v_len_r,v_ixt,v_ixl,v_ixr,v_eq_bb,v_ne_bb,v_subE_i,v_int1_1,v_int1_0,List.map_cons,List.map_nil,List.length_cons,List.length_nil,List.cons_append,List.nil_append,List.replicate_succ,List.replicate_zero,List.getElem?_cons_zero,List.getElem?_cons_succ,List.set_cons_zero,List.set_cons_succ,Option.map_some,Nat.reduceSub,Nat.reduceAdd,Nat.reduceLT,Nat.reduceLeDiff,bigN]
    rw [v_mod hb0]
    rfl
def rowS (a b c : SV) : DS := [a, b, c, .emp]
theorem same_row {k : Nat} {Frec : List D → FR} {ds : List D} {t : D} {z : SV} (ih : ∀ x ∈ ds, Frec [x, x] = .ok (.dat (.bl true))) (ht : t = .tup ds ∨ t = .lst ds) :
    ∃ z', forL (tgN 2) (B_law_same_0 Frec) (iRow 0 (ds.length : Int).toNat) (rowS (.dat t) (.dat t) z) = .nx (rowS (.dat t) (.dat t) z') := by
  obtain ⟨τ, h, z', rfl⟩ := for_all (mt := tgN 2) (mb := B_law_same_0 Frec) (xs := iRow 0 (ds.length : Int).toNat) (τ := rowS (.dat t) (.dat t) z)
    (fun i τ => ∃ z', τ = rowS (.dat t) (.dat t) z') ⟨z, rfl⟩ (fun i x τ hx ⟨z', eτ⟩ => by
      subst eτ
      obtain ⟨i, hi, rfl⟩ := iRow_mem (List.mem_of_getElem? hx)
      have hi2 : i < ds.length := by omega
      have hg := ih ds[i] (List.getElem_mem hi2)
      have ha : L2.atI ds (i : Int) = some ds[i] := atI_at (List.getElem?_eq_getElem hi2)
      refine ⟨rowS (.dat t) (.dat t) (.dat (.int (0 + i))), rowS (.dat t) (.dat t) (.dat (.int (0 + i))), rfl, ?_, _, rfl⟩
      rw [Int.zero_add]
      rcases ht with rfl | rfl <;> simp only [v_bok,v_berr,v_sok,v_serr,v_nx,v_rt,v_bk,v_ct,v_er,v_ofs,v_var,v_slot_dat,v_slot_own,v_c,v_bin,v_kbin,v_op2,v_pk2,v_un,v_op1,v_pk1,v_peek_dat,v_peek_fr,v_peek_slot,v_pslot_own,v_pslot_dat,v_cnl,v_test,v_ktest,v_notT,v_knotT,v_nil,v_cons,v_kcons,v_kcons2,v_fast,v_kfast,v_all0,v_all1,v_kall,v_kall2,v_force_dat,v_force_fr,v_force_slot,v_fslot_own,v_fslot_dat,v_call,v_callF,v_at_ok,v_at_err,v_vB,v_atB,v_vM2,v_vM3,v_pkL,v_peeks0,v_peeks1,v_cons22,v_it_l,v_it_r,v_it_t,v_skip,v_ret,v_ret_dat,v_ret_fr,v_ret_slot,v_rslot_own,v_rslot_dat,v_retN,v_ifS,v_kifS1,v_kifS0,v_put_dat,v_put_fr,v_put_slot,v_kput,v_tgN,v_tgNil,v_tgCons,v_ktg,v_tgT,v_runF,v_endF_rt,v_endF_nx,v_endF_er,v_runB,v_endB_rt,v_endB_nx,v_add,v_sub,v_mod,v_neg,v_lt,v_cmp,v_eq,v_ne,v_len_l,v_len_t,v_len_r,v_ixt,v_ixl,v_ixr,v_eq_bb,v_ne_bb,v_subE_i,List.map_cons,List.map_nil,List.length_cons,List.length_nil,List.cons_append,List.nil_append,List.replicate_succ,List.replicate_zero,List.getElem?_cons_zero,List.getElem?_cons_succ,List.set_cons_zero,List.set_cons_succ,Option.map_some,Nat.reduceSub,Nat.reduceAdd,Nat.reduceLT,Nat.reduceLeDiff,bigN, B_law_same_0, rowS, ha, hg, Bool.not_true])
  exact ⟨z', h⟩
theorem e_same_int {k : Nat} {b : Int} : F_law_same (k + 1) [.int b, .int b] = .ok (.dat (.bl true)) := by
  show runF nn__law_same.length (M_law_same (F_law_same k)) [.int b, .int b] = _
  simp only [v_bok,v_berr,v_sok,v_serr,v_nx,v_rt,v_bk,v_ct,v_er,v_ofs,v_var,v_slot_dat,v_slot_own,v_c,v_bin,v_kbin,v_op2,v_pk2,v_un,v_op1,v_pk1,v_peek_dat,v_peek_fr,v_peek_slot,v_pslot_own,v_pslot_dat,v_cnl,v_test,v_ktest,v_orT,v_kor1,v_kor0,v_isNone,v_nil,v_cons,v_kcons,v_kcons2,v_fast,v_kfast,v_all0,v_all1,v_kall,v_kall2,v_force_dat,v_force_fr,v_force_slot,v_fslot_own,v_fslot_dat,v_at_ok,v_at_err,v_vB,v_atB,v_vM2,v_vM3,v_cb,v_kcb,v_pkL,v_peeks0,v_peeks1,v_cons22,v_isi,v_it_l,v_it_r,v_it_t,v_rng1,v_seq,v_skip,v_ret,v_ret_dat,v_ret_fr,v_ret_slot,v_rslot_own,v_rslot_dat,v_retN,v_ifS,v_kifS1,v_kifS0,v_put_dat,v_put_fr,v_put_slot,v_kput,v_tgN,v_tgNil,v_tgCons,v_ktg,v_tgT,v_for,v_runF,v_endF_rt,v_endF_nx,v_endF_er,v_runB,v_endB_rt,v_endB_nx,v_add,v_sub,v_mod,v_neg,v_lt,v_cmp,v_eq,v_ne,v_len_l,v_len_t,v_len_r,v_ixt,v_ixl,v_ixr,v_kb_NoneType_bool,v_kb_NoneType_int,v_kb_NoneType_str,v_kb_NoneType_tuple,v_kb_NoneType_list,v_kb_NoneType_dict,v_kb_bool_bool,v_kb_bool_int,v_kb_bool_str,v_kb_bool_tuple,v_kb_bool_list,v_kb_bool_dict,v_kb_int_bool,v_kb_int_int,v_kb_int_str,v_kb_int_tuple,v_kb_int_list,v_kb_int_dict,v_kb_str_bool,v_kb_str_int,v_kb_str_str,v_kb_str_tuple,v_kb_str_list,v_kb_str_dict,v_kb_tuple_bool,v_kb_tuple_int,v_kb_tuple_str,v_kb_tuple_tuple,v_kb_tuple_list,v_kb_tuple_dict,v_kb_list_bool,v_kb_list_int,v_kb_list_str,v_kb_list_tuple,v_kb_list_list,v_kb_list_dict,v_kb_dict_bool,v_kb_dict_int,v_kb_dict_str,v_kb_dict_tuple,v_kb_dict_list,v_kb_dict_dict,v_isi_non,v_isi_bl,v_isi_int,v_isi_str,v_isi_tup,v_isi_lst,v_isi_dct,v_eq_bb,v_ne_bb,v_isNone_non,v_isNone_bl,v_isNone_int,v_isNone_str,v_isNone_tup,v_isNone_lst,v_subE_i,List.map_cons,List.map_nil,List.length_cons,List.length_nil,List.cons_append,List.nil_append,List.replicate_succ,List.replicate_zero,List.getElem?_cons_zero,List.getElem?_cons_succ,List.set_cons_zero,List.set_cons_succ,Option.map_some,Nat.reduceSub,Nat.reduceAdd,Nat.reduceLT,Nat.reduceLeDiff,bigN, M_law_same, beq_self_eq_true, Bool.not_true, Bool.not_false]
theorem e_same_lst {k : Nat} {ds : List D} (ih : ∀ x ∈ ds, F_law_same k [x, x] = .ok (.dat (.bl true))) (hl : ds.length ≤ 100000) : F_law_same (k + 1) [.lst ds, .lst ds] = .ok (.dat (.bl true)) := by
  show runF nn__law_same.length (M_law_same (F_law_same k)) [.lst ds, .lst ds] = _
  obtain ⟨z', r⟩ := same_row (k := k) (z := .emp) ih (.inr rfl)
  have e2 : -1000000000 ≤ (ds.length : Int) ∧ (ds.length : Int) < 1000000000 := by omega
  unfold rowS at r
  simp only [v_bok,v_berr,v_sok,v_serr,v_nx,v_rt,v_bk,v_ct,v_er,v_ofs,v_var,v_slot_dat,v_slot_own,v_c,v_bin,v_kbin,v_op2,v_pk2,v_un,v_op1,v_pk1,v_peek_dat,v_peek_fr,v_peek_slot,v_pslot_own,v_pslot_dat,v_cnl,v_test,v_ktest,v_orT,v_kor1,v_kor0,v_isNone,v_nil,v_cons,v_kcons,v_kcons2,v_fast,v_kfast,v_all0,v_all1,v_kall,v_kall2,v_force_dat,v_force_fr,v_force_slot,v_fslot_own,v_fslot_dat,v_at_ok,v_at_err,v_vB,v_atB,v_vM2,v_vM3,v_cb,v_kcb,v_pkL,v_peeks0,v_peeks1,v_cons22,v_isi,v_it_l,v_it_r,v_it_t,v_rng1,v_seq,v_skip,v_ret,v_ret_dat,v_ret_fr,v_ret_slot,v_rslot_own,v_rslot_dat,v_retN,v_ifS,v_kifS1,v_kifS0,v_put_dat,v_put_fr,v_put_slot,v_kput,v_tgN,v_tgNil,v_tgCons,v_ktg,v_tgT,v_for,v_runF,v_endF_rt,v_endF_nx,v_endF_er,v_runB,v_endB_rt,v_endB_nx,v_add,v_sub,v_mod,v_neg,v_lt,v_cmp,v_eq,v_ne,v_len_l,v_len_t,v_len_r,v_ixt,v_ixl,v_ixr,v_kb_NoneType_bool,v_kb_NoneType_int,v_kb_NoneType_str,v_kb_NoneType_tuple,v_kb_NoneType_list,v_kb_NoneType_dict,v_kb_bool_bool,v_kb_bool_int,v_kb_bool_str,v_kb_bool_tuple,v_kb_bool_list,v_kb_bool_dict,v_kb_int_bool,v_kb_int_int,v_kb_int_str,v_kb_int_tuple,v_kb_int_list,v_kb_int_dict,v_kb_str_bool,v_kb_str_int,v_kb_str_str,v_kb_str_tuple,v_kb_str_list,v_kb_str_dict,v_kb_tuple_bool,v_kb_tuple_int,v_kb_tuple_str,v_kb_tuple_tuple,v_kb_tuple_list,v_kb_tuple_dict,v_kb_list_bool,v_kb_list_int,v_kb_list_str,v_kb_list_tuple,v_kb_list_list,v_kb_list_dict,v_kb_dict_bool,v_kb_dict_int,v_kb_dict_str,v_kb_dict_tuple,v_kb_dict_list,v_kb_dict_dict,v_isi_non,v_isi_bl,v_isi_int,v_isi_str,v_isi_tup,v_isi_lst,v_isi_dct,v_eq_bb,v_ne_bb,v_isNone_non,v_isNone_bl,v_isNone_int,v_isNone_str,v_isNone_tup,v_isNone_lst,v_subE_i,List.map_cons,List.map_nil,List.length_cons,List.length_nil,List.cons_append,List.nil_append,List.replicate_succ,List.replicate_zero,List.getElem?_cons_zero,List.getElem?_cons_succ,List.set_cons_zero,List.set_cons_succ,Option.map_some,Nat.reduceSub,Nat.reduceAdd,Nat.reduceLT,Nat.reduceLeDiff,bigN, M_law_same, beq_self_eq_true, Bool.not_true, Bool.not_false, v_rng1 e2, r]
theorem e_same_tup {k : Nat} {ds : List D} (ih : ∀ x ∈ ds, F_law_same k [x, x] = .ok (.dat (.bl true))) (hl : ds.length ≤ 100000) : F_law_same (k + 1) [.tup ds, .tup ds] = .ok (.dat (.bl true)) := by
  show runF nn__law_same.length (M_law_same (F_law_same k)) [.tup ds, .tup ds] = _
  obtain ⟨z', r⟩ := same_row (k := k) (z := .emp) ih (.inl rfl)
  have e2 : -1000000000 ≤ (ds.length : Int) ∧ (ds.length : Int) < 1000000000 := by omega
  unfold rowS at r
  simp only [v_bok,v_berr,v_sok,v_serr,v_nx,v_rt,v_bk,v_ct,v_er,v_ofs,v_var,v_slot_dat,v_slot_own,v_c,v_bin,v_kbin,v_op2,v_pk2,v_un,v_op1,v_pk1,v_peek_dat,v_peek_fr,v_peek_slot,v_pslot_own,v_pslot_dat,v_cnl,v_test,v_ktest,v_orT,v_kor1,v_kor0,v_isNone,v_nil,v_cons,v_kcons,v_kcons2,v_fast,v_kfast,v_all0,v_all1,v_kall,v_kall2,v_force_dat,v_force_fr,v_force_slot,v_fslot_own,v_fslot_dat,v_at_ok,v_at_err,v_vB,v_atB,v_vM2,v_vM3,v_cb,v_kcb,v_pkL,v_peeks0,v_peeks1,v_cons22,v_isi,v_it_l,v_it_r,v_it_t,v_rng1,v_seq,v_skip,v_ret,v_ret_dat,v_ret_fr,v_ret_slot,v_rslot_own,v_rslot_dat,v_retN,v_ifS,v_kifS1,v_kifS0,v_put_dat,v_put_fr,v_put_slot,v_kput,v_tgN,v_tgNil,v_tgCons,v_ktg,v_tgT,v_for,v_runF,v_endF_rt,v_endF_nx,v_endF_er,v_runB,v_endB_rt,v_endB_nx,v_add,v_sub,v_mod,v_neg,v_lt,v_cmp,v_eq,v_ne,v_len_l,v_len_t,v_len_r,v_ixt,v_ixl,v_ixr,v_kb_NoneType_bool,v_kb_NoneType_int,v_kb_NoneType_str,v_kb_NoneType_tuple,v_kb_NoneType_list,v_kb_NoneType_dict,v_kb_bool_bool,v_kb_bool_int,v_kb_bool_str,v_kb_bool_tuple,v_kb_bool_list,v_kb_bool_dict,v_kb_int_bool,v_kb_int_int,v_kb_int_str,v_kb_int_tuple,v_kb_int_list,v_kb_int_dict,v_kb_str_bool,v_kb_str_int,v_kb_str_str,v_kb_str_tuple,v_kb_str_list,v_kb_str_dict,v_kb_tuple_bool,v_kb_tuple_int,v_kb_tuple_str,v_kb_tuple_tuple,v_kb_tuple_list,v_kb_tuple_dict,v_kb_list_bool,v_kb_list_int,v_kb_list_str,v_kb_list_tuple,v_kb_list_list,v_kb_list_dict,v_kb_dict_bool,v_kb_dict_int,v_kb_dict_str,v_kb_dict_tuple,v_kb_dict_list,v_kb_dict_dict,v_isi_non,v_isi_bl,v_isi_int,v_isi_str,v_isi_tup,v_isi_lst,v_isi_dct,v_eq_bb,v_ne_bb,v_isNone_non,v_isNone_bl,v_isNone_int,v_isNone_str,v_isNone_tup,v_isNone_lst,v_subE_i,List.map_cons,List.map_nil,List.length_cons,List.length_nil,List.cons_append,List.nil_append,List.replicate_succ,List.replicate_zero,List.getElem?_cons_zero,List.getElem?_cons_succ,List.set_cons_zero,List.set_cons_succ,Option.map_some,Nat.reduceSub,Nat.reduceAdd,Nat.reduceLT,Nat.reduceLeDiff,bigN, M_law_same, beq_self_eq_true, Bool.not_true, Bool.not_false, v_rng1 e2, r]
theorem e_same_bl {k : Nat} {b : Bool} : F_law_same (k + 1) [.bl b, .bl b] = .ok (.dat (.bl true)) := by
  show runF nn__law_same.length (M_law_same (F_law_same k)) [.bl b, .bl b] = _
  simp only [v_bok,v_berr,v_sok,v_serr,v_nx,v_rt,v_bk,v_ct,v_er,v_ofs,v_var,v_slot_dat,v_slot_own,v_c,v_bin,v_kbin,v_op2,v_pk2,v_un,v_op1,v_pk1,v_peek_dat,v_peek_fr,v_peek_slot,v_pslot_own,v_pslot_dat,v_cnl,v_test,v_ktest,v_orT,v_kor1,v_kor0,v_isNone,v_nil,v_cons,v_kcons,v_kcons2,v_fast,v_kfast,v_all0,v_all1,v_kall,v_kall2,v_force_dat,v_force_fr,v_force_slot,v_fslot_own,v_fslot_dat,v_at_ok,v_at_err,v_vB,v_atB,v_vM2,v_vM3,v_cb,v_kcb,v_pkL,v_peeks0,v_peeks1,v_cons22,v_isi,v_it_l,v_it_r,v_it_t,v_rng1,v_seq,v_skip,v_ret,v_ret_dat,v_ret_fr,v_ret_slot,v_rslot_own,v_rslot_dat,v_retN,v_ifS,v_kifS1,v_kifS0,v_put_dat,v_put_fr,v_put_slot,v_kput,v_tgN,v_tgNil,v_tgCons,v_ktg,v_tgT,v_for,v_runF,v_endF_rt,v_endF_nx,v_endF_er,v_runB,v_endB_rt,v_endB_nx,v_add,v_sub,v_mod,v_neg,v_lt,v_cmp,v_eq,v_ne,v_len_l,v_len_t,v_len_r,v_ixt,v_ixl,v_ixr,v_kb_NoneType_bool,v_kb_NoneType_int,v_kb_NoneType_str,v_kb_NoneType_tuple,v_kb_NoneType_list,v_kb_NoneType_dict,v_kb_bool_bool,v_kb_bool_int,v_kb_bool_str,v_kb_bool_tuple,v_kb_bool_list,v_kb_bool_dict,v_kb_int_bool,v_kb_int_int,v_kb_int_str,v_kb_int_tuple,v_kb_int_list,v_kb_int_dict,v_kb_str_bool,v_kb_str_int,v_kb_str_str,v_kb_str_tuple,v_kb_str_list,v_kb_str_dict,v_kb_tuple_bool,v_kb_tuple_int,v_kb_tuple_str,v_kb_tuple_tuple,v_kb_tuple_list,v_kb_tuple_dict,v_kb_list_bool,v_kb_list_int,v_kb_list_str,v_kb_list_tuple,v_kb_list_list,v_kb_list_dict,v_kb_dict_bool,v_kb_dict_int,v_kb_dict_str,v_kb_dict_tuple,v_kb_dict_list,v_kb_dict_dict,v_isi_non,v_isi_bl,v_isi_int,v_isi_str,v_isi_tup,v_isi_lst,v_isi_dct,v_eq_bb,v_ne_bb,v_isNone_non,v_isNone_bl,v_isNone_int,v_isNone_str,v_isNone_tup,v_isNone_lst,v_subE_i,List.map_cons,List.map_nil,List.length_cons,List.length_nil,List.cons_append,List.nil_append,List.replicate_succ,List.replicate_zero,List.getElem?_cons_zero,List.getElem?_cons_succ,List.set_cons_zero,List.set_cons_succ,Option.map_some,Nat.reduceSub,Nat.reduceAdd,Nat.reduceLT,Nat.reduceLeDiff,bigN, M_law_same, beq_self_eq_true, Bool.not_true, Bool.not_false]
theorem e_same_non {k : Nat} : F_law_same (k + 1) [.non, .non] = .ok (.dat (.bl true)) := by
  show runF nn__law_same.length (M_law_same (F_law_same k)) [.non, .non] = _
  simp only [v_bok,v_berr,v_sok,v_serr,v_nx,v_rt,v_bk,v_ct,v_er,v_ofs,v_var,v_slot_dat,v_slot_own,v_c,v_bin,v_kbin,v_op2,v_pk2,v_un,v_op1,v_pk1,v_peek_dat,v_peek_fr,v_peek_slot,v_pslot_own,v_pslot_dat,v_cnl,v_test,v_ktest,v_orT,v_kor1,v_kor0,v_isNone,v_nil,v_cons,v_kcons,v_kcons2,v_fast,v_kfast,v_all0,v_all1,v_kall,v_kall2,v_force_dat,v_force_fr,v_force_slot,v_fslot_own,v_fslot_dat,v_at_ok,v_at_err,v_vB,v_atB,v_vM2,v_vM3,v_cb,v_kcb,v_pkL,v_peeks0,v_peeks1,v_cons22,v_isi,v_it_l,v_it_r,v_it_t,v_rng1,v_seq,v_skip,v_ret,v_ret_dat,v_ret_fr,v_ret_slot,v_rslot_own,v_rslot_dat,v_retN,v_ifS,v_kifS1,v_kifS0,v_put_dat,v_put_fr,v_put_slot,v_kput,v_tgN,v_tgNil,v_tgCons,v_ktg,v_tgT,v_for,v_runF,v_endF_rt,v_endF_nx,v_endF_er,v_runB,v_endB_rt,v_endB_nx,v_add,v_sub,v_mod,v_neg,v_lt,v_cmp,v_eq,v_ne,v_len_l,v_len_t,v_len_r,v_ixt,v_ixl,v_ixr,v_kb_NoneType_bool,v_kb_NoneType_int,v_kb_NoneType_str,v_kb_NoneType_tuple,v_kb_NoneType_list,v_kb_NoneType_dict,v_kb_bool_bool,v_kb_bool_int,v_kb_bool_str,v_kb_bool_tuple,v_kb_bool_list,v_kb_bool_dict,v_kb_int_bool,v_kb_int_int,v_kb_int_str,v_kb_int_tuple,v_kb_int_list,v_kb_int_dict,v_kb_str_bool,v_kb_str_int,v_kb_str_str,v_kb_str_tuple,v_kb_str_list,v_kb_str_dict,v_kb_tuple_bool,v_kb_tuple_int,v_kb_tuple_str,v_kb_tuple_tuple,v_kb_tuple_list,v_kb_tuple_dict,v_kb_list_bool,v_kb_list_int,v_kb_list_str,v_kb_list_tuple,v_kb_list_list,v_kb_list_dict,v_kb_dict_bool,v_kb_dict_int,v_kb_dict_str,v_kb_dict_tuple,v_kb_dict_list,v_kb_dict_dict,v_isi_non,v_isi_bl,v_isi_int,v_isi_str,v_isi_tup,v_isi_lst,v_isi_dct,v_eq_bb,v_ne_bb,v_isNone_non,v_isNone_bl,v_isNone_int,v_isNone_str,v_isNone_tup,v_isNone_lst,v_subE_i,List.map_cons,List.map_nil,List.length_cons,List.length_nil,List.cons_append,List.nil_append,List.replicate_succ,List.replicate_zero,List.getElem?_cons_zero,List.getElem?_cons_succ,List.set_cons_zero,List.set_cons_succ,Option.map_some,Nat.reduceSub,Nat.reduceAdd,Nat.reduceLT,Nat.reduceLeDiff,bigN, M_law_same, beq_self_eq_true, Bool.not_true, Bool.not_false]
theorem e_same_str {k : Nat} {b : Str} (hb : PyData.strOk b = true) : F_law_same (k + 1) [.str b, .str b] = .ok (.dat (.bl true)) := by
  show runF nn__law_same.length (M_law_same (F_law_same k)) [.str b, .str b] = _
  have e3 : eqD (.str b) (.str b) = some (.dat (.bl true)) := eqD_refl (k := 1) hb (by decide)
  simp only [v_bok,v_berr,v_sok,v_serr,v_nx,v_rt,v_bk,v_ct,v_er,v_ofs,v_var,v_slot_dat,v_slot_own,v_c,v_bin,v_kbin,v_op2,v_pk2,v_un,v_op1,v_pk1,v_peek_dat,v_peek_fr,v_peek_slot,v_pslot_own,v_pslot_dat,v_cnl,v_test,v_ktest,v_orT,v_kor1,v_kor0,v_isNone,v_nil,v_cons,v_kcons,v_kcons2,v_fast,v_kfast,v_all0,v_all1,v_kall,v_kall2,v_force_dat,v_force_fr,v_force_slot,v_fslot_own,v_fslot_dat,v_at_ok,v_at_err,v_vB,v_atB,v_vM2,v_vM3,v_cb,v_kcb,v_pkL,v_peeks0,v_peeks1,v_cons22,v_isi,v_it_l,v_it_r,v_it_t,v_rng1,v_seq,v_skip,v_ret,v_ret_dat,v_ret_fr,v_ret_slot,v_rslot_own,v_rslot_dat,v_retN,v_ifS,v_kifS1,v_kifS0,v_put_dat,v_put_fr,v_put_slot,v_kput,v_tgN,v_tgNil,v_tgCons,v_ktg,v_tgT,v_for,v_runF,v_endF_rt,v_endF_nx,v_endF_er,v_runB,v_endB_rt,v_endB_nx,v_add,v_sub,v_mod,v_neg,v_lt,v_cmp,v_eq,v_ne,v_len_l,v_len_t,v_len_r,v_ixt,v_ixl,v_ixr,v_kb_NoneType_bool,v_kb_NoneType_int,v_kb_NoneType_str,v_kb_NoneType_tuple,v_kb_NoneType_list,v_kb_NoneType_dict,v_kb_bool_bool,v_kb_bool_int,v_kb_bool_str,v_kb_bool_tuple,v_kb_bool_list,v_kb_bool_dict,v_kb_int_bool,v_kb_int_int,v_kb_int_str,v_kb_int_tuple,v_kb_int_list,v_kb_int_dict,v_kb_str_bool,v_kb_str_int,v_kb_str_str,v_kb_str_tuple,v_kb_str_list,v_kb_str_dict,v_kb_tuple_bool,v_kb_tuple_int,v_kb_tuple_str,v_kb_tuple_tuple,v_kb_tuple_list,v_kb_tuple_dict,v_kb_list_bool,v_kb_list_int,v_kb_list_str,v_kb_list_tuple,v_kb_list_list,v_kb_list_dict,v_kb_dict_bool,v_kb_dict_int,v_kb_dict_str,v_kb_dict_tuple,v_kb_dict_list,v_kb_dict_dict,v_isi_non,v_isi_bl,v_isi_int,v_isi_str,v_isi_tup,v_isi_lst,v_isi_dct,v_eq_bb,v_ne_bb,v_isNone_non,v_isNone_bl,v_isNone_int,v_isNone_str,v_isNone_tup,v_isNone_lst,v_subE_i,List.map_cons,List.map_nil,List.length_cons,List.length_nil,List.cons_append,List.nil_append,List.replicate_succ,List.replicate_zero,List.getElem?_cons_zero,List.getElem?_cons_succ,List.set_cons_zero,List.set_cons_succ,Option.map_some,Nat.reduceSub,Nat.reduceAdd,Nat.reduceLT,Nat.reduceLeDiff,bigN, M_law_same, beq_self_eq_true, Bool.not_true, Bool.not_false, e3]
theorem e_same : ∀ (k : Nat) (d : D), Good k d → F_law_same k [d, d] = .ok (.dat (.bl true)) := by
  intro k
  induction k with
  | zero => intro d h; exact False.elim h
  | succ k ih =>
    intro d h
    match d, h with
    | .non, _ => exact e_same_non
    | .bl _, _ => exact e_same_bl
    | .int _, _ => exact e_same_int
    | .str _, h => exact e_same_str h
    | .tup _, h => exact e_same_tup (fun x hx => ih x (h.2 x hx)) h.1
    | .lst _, h => exact e_same_lst (fun x hx => ih x (h.2 x hx)) h.1
def nonneg (l : List Int) : Prop := ∀ x ∈ l, 0 ≤ x
theorem e_pick {l : List Int} {ds : List D} (hn : ds ≠ []) (hl : nonneg l) : ∃ (d : D) (l' : List Int), F_law_pick (.lst (l.map D.int)) [.lst ds] = .ok (.dat d) (.lst (l'.map D.int)) ∧ d ∈ ds ∧ nonneg l' := by
  have h0 : (0 : Int) < ds.length := by have := List.length_pos_iff.mpr hn; omega
  obtain ⟨v, l', h1, h2, h3, h4⟩ := e_take h0 hl
  have hv : v.toNat < ds.length := by omega
  have ha : L2.atI ds v = some ds[v.toNat] := by
    have := atI_at (List.getElem?_eq_getElem hv)
    rwa [Int.toNat_of_nonneg h2] at this
  refine ⟨ds[v.toNat], l', ?_, List.getElem_mem hv, h4⟩
  unfold F_law_pick M_law_pick
  simp only [v_bok,v_berr,v_sok,v_serr,v_nx,v_rt,v_bk,v_ct,v_er,v_ofs,v_var,v_slot_dat,v_slot_own,v_c,v_bin,v_kbin,v_op2,v_pk2,v_un,v_op1,v_pk1,v_peek_dat,v_peek_fr,v_peek_slot,v_pslot_own,v_pslot_dat,v_cnl,v_test,v_ktest,v_nil,v_cons,v_kcons,v_kcons2,v_fast,v_kfast,v_all0,v_all1,v_kall,v_kall2,v_force_dat,v_force_fr,v_force_slot,v_fslot_own,v_fslot_dat,v_at_ok,v_at_err,v_callB,v_vown,v_kcallB,v_vB,v_atB,v_vM2,v_vM3,v_cb,v_kcb,v_pkL,v_peeks0,v_peeks1,v_cons22,v_it_l,v_it_r,v_it_t,v_ret,v_ret_dat,v_ret_fr,v_ret_slot,v_rslot_own,v_rslot_dat,v_retN,v_put_dat,v_put_fr,v_put_slot,v_kput,v_tgN,v_tgNil,v_tgCons,v_ktg,v_tgT,v_runF,v_endF_rt,v_endF_nx,v_endF_er,v_runB,v_endB_rt,v_endB_nx,v_add,v_sub,v_mod,v_neg,v_lt,v_cmp,v_eq,v_ne,v_len_l,v_len_t,v_len_r,v_ixt,v_ixl,v_ixr,v_eq_bb,v_ne_bb,v_subE_i,List.map_cons,List.map_nil,List.length_cons,List.length_nil,List.cons_append,List.nil_append,List.replicate_succ,List.replicate_zero,List.getElem?_cons_zero,List.getElem?_cons_succ,List.set_cons_zero,List.set_cons_succ,Option.map_some,Nat.reduceSub,Nat.reduceAdd,Nat.reduceLT,Nat.reduceLeDiff,bigN, nn__law_pick, h1, ha]
theorem li_app {l : List Int} {x : Int} (h : l.length ≤ 900000) : fAppend (l.map D.int) [.int x] = some (.non, (l ++ [x]).map D.int) := by
  rw [v_append (by rw [List.length_map]; show _ < 1000000; omega)]
  simp
theorem nonneg_app {l : List Int} {x : Int} (h : nonneg l) (hx : 0 ≤ x) : nonneg (l ++ [x]) := fun y hy => by
  rcases List.mem_append.mp hy with z | z
  · exact h y z
  · rw [List.mem_singleton.mp z]; exact hx
theorem pow18 : powD (.int 10) (.int 18) = some (.dat (.int 1000000000000000000)) := rfl
theorem fm0 {a m : Int} (h : 0 < m) : 0 ≤ a.fmod m := Int.fmod_nonneg_of_pos _ h
theorem fd {a m : Int} (h : 0 ≤ m) : a.fdiv m = a / m := Int.fdiv_eq_ediv_of_nonneg a h
theorem c_r {i j : Int} (h0 : -18446744073709551616 < j) (h1 : j < 18446744073709551616) : L2.CMul i j := .inr ⟨by omega, by omega⟩
theorem cK {a b : Int} (h0 : -18446744073709551616 < b) (h1 : b < 18446744073709551616) : L2.CMul a b := c_r h0 h1
theorem cL {a b : Int} (h0 : -18446744073709551616 < a) (h1 : a < 18446744073709551616) : L2.CMul a b := .inl ⟨by omega, by omega⟩
def drS (s : D) (l : List Int) (x2 x3 x4 x5 : SV) : DS := [.dat s, .own (.lst (l.map D.int)), x2, x3, x4, x5]
theorem dr_in {s : D} {l : List Int} {x2 x3 x5 : SV} {k : Int} (hl : nonneg l) (hk : l.length ≤ 800000) : ∃ (l' : List Int) (k' : Int) (y5 : SV), forL (tgN 5) B_law_draws_0 (iRow 0 (60 : Int).toNat) (drS s l x2 x3 (.dat (.int k)) x5) = .nx (drS s l' x2 x3 (.dat (.int k')) y5) ∧ nonneg l' ∧ l'.length ≤ l.length + 60 := by
  obtain ⟨τ, h, l', k', y5, rfl, h1, h2⟩ := for_all (mt := tgN 5) (mb := B_law_draws_0) (xs := iRow 0 (60 : Int).toNat) (τ := drS s l x2 x3 (.dat (.int k)) x5)
    (fun i τ => ∃ (l' : List Int) (k' : Int) (y5 : SV), τ = drS s l' x2 x3 (.dat (.int k')) y5 ∧ nonneg l' ∧ l'.length ≤ l.length + i) ⟨l, k, x5, rfl, hl, Nat.le_refl _⟩ (fun i x τ hx ⟨l', k', y5, eτ, g1, g2⟩ => by
      subst eτ
      have hi : i < 60 := by
        have := (List.getElem?_eq_some_iff.mp hx).1
        rw [iRow_len] at this
        exact this
      by_cases hp : 0 < k'
      · refine ⟨drS s l' x2 x3 (.dat (.int k')) (.dat x), drS s (l' ++ [k'.fmod 997]) x2 x3 (.dat (.int (k'.fdiv 997))) (.dat x), rfl, ?_, _, _, _, rfl, nonneg_app g1 (fm0 (by decide)), by simp; omega⟩
        simp only [v_bok,v_berr,v_sok,v_serr,v_nx,v_rt,v_bk,v_ct,v_er,v_ofs,v_var,v_slot_dat,v_slot_own,v_c,v_bin,v_kbin,v_op2,v_pk2,v_un,v_op1,v_pk1,v_peek_dat,v_peek_fr,v_peek_slot,v_pslot_own,v_pslot_dat,v_cnl,v_test,v_ktest,v_nil,v_cons,v_kcons,v_kcons2,v_fast,v_kfast,v_all0,v_all1,v_kall,v_kall2,v_force_dat,v_force_fr,v_force_slot,v_fslot_own,v_fslot_dat,v_at_ok,v_at_err,v_vB,v_atB,v_meth,v_vM,v_methAt,v_vM2,v_vM3,v_append,v_cb,v_kcb,v_pkL,v_peeks0,v_peeks1,v_cons22,v_it_l,v_it_r,v_it_t,v_seq,v_skip,v_drop,v_kdrop,v_ret_dat,v_ret_fr,v_ret_slot,v_rslot_own,v_rslot_dat,v_retN,v_ifS,v_kifS1,v_kifS0,v_set,v_put_dat,v_put_fr,v_put_slot,v_kput,v_tgN,v_tgNil,v_tgCons,v_ktg,v_tgT,v_runF,v_endF_rt,v_endF_nx,v_endF_er,v_runB,v_endB_rt,v_endB_nx,v_add,v_sub,v_mod,v_fdiv,v_neg,v_lt,v_cmp,v_eq,v_ne,v_int1,v_len_l,v_len_t,v_len_r,v_ixt,v_ixl,v_ixr,v_eq_bb,v_ne_bb,v_subE_i,v_int1_1,v_int1_0,List.map_cons,List.map_nil,List.length_cons,List.length_nil,List.cons_append,List.nil_append,List.replicate_succ,List.replicate_zero,List.getElem?_cons_zero,List.getElem?_cons_succ,List.set_cons_zero,List.set_cons_succ,Option.map_some,Nat.reduceSub,Nat.reduceAdd,Nat.reduceLT,Nat.reduceLeDiff,bigN, B_law_draws_0, drS, decide_eq_true hp, v_mod (show (997 : Int) ≠ 0 by decide), li_app (show l'.length ≤ 900000 by omega), v_fdiv (show (0 : Int) < 997 by decide) (show (997 : Int) < 2 ^ 250 by decide)]
      · refine ⟨drS s l' x2 x3 (.dat (.int k')) (.dat x), drS s l' x2 x3 (.dat (.int k')) (.dat x), rfl, ?_, _, _, _, rfl, g1, by omega⟩
        simp only [v_bok,v_berr,v_sok,v_serr,v_nx,v_rt,v_bk,v_ct,v_er,v_ofs,v_var,v_slot_dat,v_slot_own,v_c,v_bin,v_kbin,v_op2,v_pk2,v_un,v_op1,v_pk1,v_peek_dat,v_peek_fr,v_peek_slot,v_pslot_own,v_pslot_dat,v_cnl,v_test,v_ktest,v_nil,v_cons,v_kcons,v_kcons2,v_fast,v_kfast,v_all0,v_all1,v_kall,v_kall2,v_force_dat,v_force_fr,v_force_slot,v_fslot_own,v_fslot_dat,v_at_ok,v_at_err,v_vB,v_atB,v_meth,v_vM,v_methAt,v_vM2,v_vM3,v_append,v_cb,v_kcb,v_pkL,v_peeks0,v_peeks1,v_cons22,v_it_l,v_it_r,v_it_t,v_seq,v_skip,v_drop,v_kdrop,v_ret_dat,v_ret_fr,v_ret_slot,v_rslot_own,v_rslot_dat,v_retN,v_ifS,v_kifS1,v_kifS0,v_set,v_put_dat,v_put_fr,v_put_slot,v_kput,v_tgN,v_tgNil,v_tgCons,v_ktg,v_tgT,v_runF,v_endF_rt,v_endF_nx,v_endF_er,v_runB,v_endB_rt,v_endB_nx,v_add,v_sub,v_mod,v_fdiv,v_neg,v_lt,v_cmp,v_eq,v_ne,v_int1,v_len_l,v_len_t,v_len_r,v_ixt,v_ixl,v_ixr,v_eq_bb,v_ne_bb,v_subE_i,v_int1_1,v_int1_0,List.map_cons,List.map_nil,List.length_cons,List.length_nil,List.cons_append,List.nil_append,List.replicate_succ,List.replicate_zero,List.getElem?_cons_zero,List.getElem?_cons_succ,List.set_cons_zero,List.set_cons_succ,Option.map_some,Nat.reduceSub,Nat.reduceAdd,Nat.reduceLT,Nat.reduceLeDiff,bigN, B_law_draws_0, drS, decide_eq_false hp])
  refine ⟨l', k', y5, h, h1, ?_⟩
  rw [iRow_len] at h2
  exact h2
theorem dr_out {ns : List Int} {x3 x4 x5 : SV} {k : Int} (hn : ns.length ≤ 63) : ∃ (l' : List Int) (k' : Int) (y3 y4 y5 : SV), forL (tgN 3) B_law_draws_1 (ns.map D.int) (drS (.rol (ns.map D.int)) [] (.dat (.int k)) x3 x4 x5) = .nx (drS (.rol (ns.map D.int)) l' (.dat (.int k')) y3 y4 y5) ∧ nonneg l' ∧ l'.length ≤ 4000 := by
  obtain ⟨τ, h, l', k', y3, y4, y5, rfl, h1, h2⟩ := for_all (mt := tgN 3) (mb := B_law_draws_1) (xs := ns.map D.int) (τ := drS (.rol (ns.map D.int)) [] (.dat (.int k)) x3 x4 x5)
    (fun i τ => ∃ (l' : List Int) (k' : Int) (y3 y4 y5 : SV), τ = drS (.rol (ns.map D.int)) l' (.dat (.int k')) y3 y4 y5 ∧ nonneg l' ∧ l'.length ≤ 62 * i) ⟨[], k, x3, x4, x5, rfl, (fun _ h => nomatch h), Nat.le_refl _⟩ (fun i x τ hx ⟨l', k', y3, y4, y5, eτ, g1, g2⟩ => by
      subst eτ
      have hi : i < ns.length := by
        have := (List.getElem?_eq_some_iff.mp hx).1
        rwa [List.length_map] at this
      obtain ⟨c, _, rfl⟩ := List.mem_map.mp (List.mem_of_getElem? hx)
      have r60 : -1000000000 ≤ (60 : Int) ∧ (60 : Int) < 1000000000 := by decide
      have k1 : ∀ a : Int, L2.CMul a 48271 := fun a => cK (by decide) (by decide)
      generalize hf : (k' * 48271 + (if c < 0 then -c else c) + 1).fmod 2147483647 = seed
      by_cases hs : (if c < 0 then -c else c) < 1000000000000000000
      · obtain ⟨l2, k2, z5, hin, q1, q2⟩ := dr_in (s := .rol (ns.map D.int)) (l := l' ++ [(if c < 0 then -c else c).fmod 997] ++ [seed.fmod 65521]) (x2 := .dat (.int seed)) (x3 := .dat (.int c)) (x5 := y5) (k := 0)
          (nonneg_app (nonneg_app g1 (fm0 (by decide))) (fm0 (by decide))) (by simp; omega)
        refine ⟨drS (.rol (ns.map D.int)) l' (.dat (.int k')) (.dat (.int c)) y4 y5, _, rfl, ?_, l2, seed, .dat (.int c), .dat (.int k2), z5, rfl, q1, by simp at q2; omega⟩
        unfold drS at hin
        simp only [v_bok,v_berr,v_sok,v_serr,v_nx,v_rt,v_bk,v_ct,v_er,v_ofs,v_var,v_slot_dat,v_slot_own,v_c,v_bin,v_kbin,v_op2,v_pk2,v_un,v_op1,v_pk1,v_peek_dat,v_peek_fr,v_peek_slot,v_pslot_own,v_pslot_dat,v_cnl,v_test,v_ktest,v_nil,v_cons,v_kcons,v_kcons2,v_fast,v_kfast,v_all0,v_all1,v_kall,v_kall2,v_force_dat,v_force_fr,v_force_slot,v_fslot_own,v_fslot_dat,v_at_ok,v_at_err,v_vB,v_atB,v_meth,v_vM,v_methAt,v_vM2,v_vM3,v_append,v_cb,v_kcb,v_pkL,v_peeks0,v_peeks1,v_cons22,v_it_l,v_it_r,v_it_t,v_rng1,v_seq,v_skip,v_drop,v_kdrop,v_ret_dat,v_ret_fr,v_ret_slot,v_rslot_own,v_rslot_dat,v_retN,v_ifS,v_kifS1,v_kifS0,v_set,v_put_dat,v_put_fr,v_put_slot,v_kput,v_tgN,v_tgNil,v_tgCons,v_ktg,v_tgT,v_for,v_runF,v_endF_rt,v_endF_nx,v_endF_er,v_runB,v_endB_rt,v_endB_nx,v_add,v_sub,v_mod,v_neg,v_lt,v_cmp,v_eq,v_ne,v_absD,v_int1,v_len_l,v_len_t,v_len_r,v_ixt,v_ixl,v_ixr,v_eq_bb,v_ne_bb,v_mulE_i,v_mulE_t,v_mulE_l,v_subE_i,v_int1_1,v_int1_0,v_add_l,v_add_t,List.map_cons,List.map_nil,List.length_cons,List.length_nil,List.cons_append,List.nil_append,List.replicate_succ,List.replicate_zero,List.getElem?_cons_zero,List.getElem?_cons_succ,List.set_cons_zero,List.set_cons_succ,Option.map_some,Nat.reduceSub,Nat.reduceAdd,Nat.reduceLT,Nat.reduceLeDiff,bigN, B_law_draws_1, drS, pow18, decide_eq_true hs, v_mulE_i (k1 _), v_mod (show (2147483647 : Int) ≠ 0 by decide), v_mod (show (997 : Int) ≠ 0 by decide), v_mod (show (65521 : Int) ≠ 0 by decide), hf, li_app (show l'.length ≤ 900000 by omega), li_app (show (l' ++ [(if c < 0 then -c else c).fmod 997]).length ≤ 900000 by simp; omega), v_rng1 r60, hin]
      · obtain ⟨l2, k2, z5, hin, q1, q2⟩ := dr_in (s := .rol (ns.map D.int)) (l := l') (x2 := .dat (.int seed)) (x3 := .dat (.int c)) (x5 := y5) (k := (if c < 0 then -c else c)) g1 (by omega)
        refine ⟨drS (.rol (ns.map D.int)) l' (.dat (.int k')) (.dat (.int c)) y4 y5, _, rfl, ?_, l2, seed, .dat (.int c), .dat (.int k2), z5, rfl, q1, by omega⟩
        unfold drS at hin
        simp only [v_bok,v_berr,v_sok,v_serr,v_nx,v_rt,v_bk,v_ct,v_er,v_ofs,v_var,v_slot_dat,v_slot_own,v_c,v_bin,v_kbin,v_op2,v_pk2,v_un,v_op1,v_pk1,v_peek_dat,v_peek_fr,v_peek_slot,v_pslot_own,v_pslot_dat,v_cnl,v_test,v_ktest,v_nil,v_cons,v_kcons,v_kcons2,v_fast,v_kfast,v_all0,v_all1,v_kall,v_kall2,v_force_dat,v_force_fr,v_force_slot,v_fslot_own,v_fslot_dat,v_at_ok,v_at_err,v_vB,v_atB,v_meth,v_vM,v_methAt,v_vM2,v_vM3,v_append,v_cb,v_kcb,v_pkL,v_peeks0,v_peeks1,v_cons22,v_it_l,v_it_r,v_it_t,v_rng1,v_seq,v_skip,v_drop,v_kdrop,v_ret_dat,v_ret_fr,v_ret_slot,v_rslot_own,v_rslot_dat,v_retN,v_ifS,v_kifS1,v_kifS0,v_set,v_put_dat,v_put_fr,v_put_slot,v_kput,v_tgN,v_tgNil,v_tgCons,v_ktg,v_tgT,v_for,v_runF,v_endF_rt,v_endF_nx,v_endF_er,v_runB,v_endB_rt,v_endB_nx,v_add,v_sub,v_mod,v_neg,v_lt,v_cmp,v_eq,v_ne,v_absD,v_int1,v_len_l,v_len_t,v_len_r,v_ixt,v_ixl,v_ixr,v_eq_bb,v_ne_bb,v_mulE_i,v_mulE_t,v_mulE_l,v_subE_i,v_int1_1,v_int1_0,v_add_l,v_add_t,List.map_cons,List.map_nil,List.length_cons,List.length_nil,List.cons_append,List.nil_append,List.replicate_succ,List.replicate_zero,List.getElem?_cons_zero,List.getElem?_cons_succ,List.set_cons_zero,List.set_cons_succ,Option.map_some,Nat.reduceSub,Nat.reduceAdd,Nat.reduceLT,Nat.reduceLeDiff,bigN, B_law_draws_1, drS, pow18, decide_eq_false hs, v_mulE_i (k1 _), v_mod (show (2147483647 : Int) ≠ 0 by decide), hf, v_rng1 r60, hin])
  refine ⟨l', k', y3, y4, y5, h, h1, ?_⟩
  rw [List.length_map] at h2
  omega
theorem dr_seed {s : D} {l : List Int} {x3 x4 x5 : SV} {k : Int} (hl : nonneg l) (hk : l.length ≤ 800000) : ∃ (l' : List Int) (k' : Int) (y5 : SV), forL (tgN 5) B_law_draws_2 (iRow 0 (700 : Int).toNat) (drS s l (.dat (.int k)) x3 x4 x5) = .nx (drS s l' (.dat (.int k')) x3 x4 y5) ∧ nonneg l' := by
  obtain ⟨τ, h, l', k', y5, rfl, h1, h2⟩ := for_all (mt := tgN 5) (mb := B_law_draws_2) (xs := iRow 0 (700 : Int).toNat) (τ := drS s l (.dat (.int k)) x3 x4 x5)
    (fun i τ => ∃ (l' : List Int) (k' : Int) (y5 : SV), τ = drS s l' (.dat (.int k')) x3 x4 y5 ∧ nonneg l' ∧ l'.length ≤ l.length + i) ⟨l, k, x5, rfl, hl, Nat.le_refl _⟩ (fun i x τ hx ⟨l', k', y5, eτ, g1, g2⟩ => by
      subst eτ
      have hi : i < 700 := by
        have := (List.getElem?_eq_some_iff.mp hx).1
        rw [iRow_len] at this
        exact this
      have k1 : ∀ a : Int, L2.CMul a 48271 := fun a => cK (by decide) (by decide)
      have p0 : 0 ≤ (k' * 48271 + 69621).fmod 2147483647 := fm0 (by decide)
      have p1 : 0 ≤ ((k' * 48271 + 69621).fmod 2147483647).fdiv 5 := by rw [fd (by decide)]; exact Int.ediv_nonneg p0 (by decide)
      refine ⟨drS s l' (.dat (.int k')) x3 x4 (.dat x), drS s (l' ++ [((k' * 48271 + 69621).fmod 2147483647).fdiv 5]) (.dat (.int ((k' * 48271 + 69621).fmod 2147483647))) x3 x4 (.dat x), rfl, ?_, _, _, _, rfl, nonneg_app g1 p1, by simp; omega⟩
      simp only [v_bok,v_berr,v_sok,v_serr,v_nx,v_rt,v_bk,v_ct,v_er,v_ofs,v_var,v_slot_dat,v_slot_own,v_c,v_bin,v_kbin,v_op2,v_pk2,v_un,v_op1,v_pk1,v_peek_dat,v_peek_fr,v_peek_slot,v_pslot_own,v_pslot_dat,v_cnl,v_test,v_ktest,v_nil,v_cons,v_kcons,v_kcons2,v_fast,v_kfast,v_all0,v_all1,v_kall,v_kall2,v_force_dat,v_force_fr,v_force_slot,v_fslot_own,v_fslot_dat,v_at_ok,v_at_err,v_vB,v_atB,v_meth,v_vM,v_methAt,v_vM2,v_vM3,v_append,v_cb,v_kcb,v_pkL,v_peeks0,v_peeks1,v_cons22,v_it_l,v_it_r,v_it_t,v_seq,v_drop,v_kdrop,v_ret_dat,v_ret_fr,v_ret_slot,v_rslot_own,v_rslot_dat,v_retN,v_set,v_put_dat,v_put_fr,v_put_slot,v_kput,v_tgN,v_tgNil,v_tgCons,v_ktg,v_tgT,v_runF,v_endF_rt,v_endF_nx,v_endF_er,v_runB,v_endB_rt,v_endB_nx,v_add,v_sub,v_mod,v_fdiv,v_neg,v_lt,v_cmp,v_eq,v_ne,v_int1,v_len_l,v_len_t,v_len_r,v_ixt,v_ixl,v_ixr,v_eq_bb,v_ne_bb,v_mulE_i,v_mulE_t,v_mulE_l,v_subE_i,v_int1_1,v_int1_0,v_add_l,v_add_t,List.map_cons,List.map_nil,List.length_cons,List.length_nil,List.cons_append,List.nil_append,List.replicate_succ,List.replicate_zero,List.getElem?_cons_zero,List.getElem?_cons_succ,List.set_cons_zero,List.set_cons_succ,Option.map_some,Nat.reduceSub,Nat.reduceAdd,Nat.reduceLT,Nat.reduceLeDiff,bigN, B_law_draws_2, drS, v_mulE_i (k1 _), v_mod (show (2147483647 : Int) ≠ 0 by decide), li_app (show l'.length ≤ 900000 by omega), v_fdiv (show (0 : Int) < 5 by decide) (show (5 : Int) < 2 ^ 250 by decide)])
  exact ⟨l', k', y5, h, h1⟩
theorem e_draws {ns : List Int} (hn : ns.length ≤ 63) : ∃ l : List Int, nonneg l ∧ F_law_draws [.rol (ns.map D.int)] = .ok (.fr (.lst (l.map D.int))) := by
  obtain ⟨l1, k1, y3, y4, y5, h1, n1, b1⟩ := dr_out (x3 := .emp) (x4 := .emp) (x5 := .emp) (k := 11) hn
  obtain ⟨l2, k2, z5, h2, n2⟩ := dr_seed (s := .rol (ns.map D.int)) (l := l1) (x3 := y3) (x4 := y4) (x5 := y5) (k := k1) n1 (by omega)
  refine ⟨l2.reverse, fun x hx => n2 x (List.mem_reverse.mp hx), ?_⟩
  have r2 : -1000000000 ≤ (700 : Int) ∧ (700 : Int) < 1000000000 := by decide
  have e0 : (([] : List Int).map D.int) = [] := rfl
  unfold drS at h1 h2
  rw [e0] at h1
  unfold F_law_draws M_law_draws
  simp only [v_bok,v_berr,v_sok,v_serr,v_nx,v_rt,v_bk,v_ct,v_er,v_ofs,v_var,v_slot_dat,v_slot_own,v_c,v_bin,v_kbin,v_op2,v_pk2,v_un,v_op1,v_pk1,v_peek_dat,v_peek_fr,v_peek_slot,v_pslot_own,v_pslot_dat,v_cnl,v_test,v_ktest,v_nil,v_cons,v_kcons,v_kcons2,v_fast,v_kfast,v_all0,v_all1,v_kall,v_kall2,v_force_dat,v_force_fr,v_force_slot,v_fslot_own,v_fslot_dat,v_lst,v_klst,v_at_ok,v_at_err,v_vB,v_atB,v_vM2,v_vM3,v_pkL,v_peeks0,v_peeks1,v_cons22,v_iter,v_it_l,v_it_r,v_it_t,v_rng1,v_seq,v_ret,v_ret_dat,v_ret_fr,v_ret_slot,v_rslot_own,v_rslot_dat,v_retN,v_set,v_put_dat,v_put_fr,v_put_slot,v_kput,v_tgN,v_tgNil,v_tgCons,v_ktg,v_tgT,v_for,v_runF,v_endF_rt,v_endF_nx,v_endF_er,v_runB,v_endB_rt,v_endB_nx,v_add,v_sub,v_mod,v_neg,v_lt,v_cmp,v_eq,v_ne,v_len_l,v_len_t,v_len_r,v_rev_l,v_rev_r,v_ixt,v_ixl,v_ixr,v_eq_bb,v_ne_bb,v_subE_i,List.map_cons,List.map_nil,List.length_cons,List.length_nil,List.cons_append,List.nil_append,List.replicate_succ,List.replicate_zero,List.getElem?_cons_zero,List.getElem?_cons_succ,List.set_cons_zero,List.set_cons_succ,Option.map_some,Nat.reduceSub,Nat.reduceAdd,Nat.reduceLT,Nat.reduceLeDiff,bigN, nn__law_draws, h1, v_rng1 r2, h2]
  simp
end Lw
set_option maxHeartbeats 1000000
namespace Lw
open PySem DL
abbrev Pt := Int × Int
def pt (a : Pt) : D := .tup [.int a.1, .int a.2]
def ed (e : Pt × Pt) : D := .tup [pt e.1, pt e.2]
def Sm (a : Pt) : Prop := -1000 ≤ a.1 ∧ a.1 ≤ 1000 ∧ -1000 ≤ a.2 ∧ a.2 ≤ 1000
theorem at0 {a b : D} : L2.atI [a, b] 0 = some a := atI_at (k := 0) rfl
theorem at1 {a b : D} : L2.atI [a, b] 1 = some b := atI_at (k := 1) rfl
def mx (i j : Int) : Int := if j > i then j else i
theorem cut_from {ds : List D} {k : Int} (h : 0 ≤ k) : cutD ds (some k) none = ds.drop k.toNat := by
  unfold cutD HT.sIx
  dsimp only
  rw [if_neg (by omega)]
  by_cases q : k.toNat ≤ ds.length
  · rw [Nat.min_eq_left q, List.take_of_length_le (by rw [List.length_drop]; omega)]
  · rw [Nat.min_eq_right (by omega), List.drop_length, List.take_nil, List.drop_of_length_le (by omega)]
theorem cut_to {ds : List D} {k : Int} (h : 0 ≤ k) : cutD ds none (some k) = ds.take k.toNat := by
  unfold cutD HT.sIx
  dsimp only
  rw [if_neg (by omega), List.drop_zero, Nat.sub_zero]
  by_cases q : k.toNat ≤ ds.length
  · rw [Nat.min_eq_left q]
  · rw [Nat.min_eq_right (by omega), List.take_of_length_le (Nat.le_refl _), List.take_of_length_le (by omega)]
def wk (l : List Pt) : List D := l.map pt
theorem atL {l : List Pt} {i : Nat} (h : i < l.length) : L2.atI (wk l) (i : Int) = some (pt l[i]) := by
  have := atI_at (l := wk l) (k := i) (d := pt l[i]) (by unfold wk; rw [List.getElem?_map, List.getElem?_eq_getElem h]; rfl)
  exact this
def atom (d : D) : Bool := match d with
  | .int _ => true
  | .bl _ => true
  | .non => true
  | .str x => PyData.strOk x
  | _ => false
def inR (d : D) : Bool := match d with
  | .int i => decide (-1000 ≤ i) && decide (i ≤ 1000)
  | _ => false
theorem e_within {d : D} {lo hi : Int} (h : plain d = true) : F_is_within [d, .int lo, .int hi] = .ok (.dat (.bl (match d with | .int i => decide (lo ≤ i) && decide (i ≤ hi) | _ => false))) := by
  have hi2 := e_is_integer h
  unfold F_is_within M_is_within
  cases d <;> first | (cases h; done) | skip
  all_goals simp only [isInt] at hi2
  case int i =>
    dsimp only
    cases h1 : decide (lo ≤ i) <;> simp only [v_bok,v_berr,v_sok,v_serr,v_nx,v_rt,v_bk,v_ct,v_er,v_ofs,v_var,v_slot_dat,v_slot_own,v_c,v_bin,v_kbin,v_op2,v_pk2,v_un,v_op1,v_pk1,v_peek_dat,v_peek_fr,v_peek_slot,v_pslot_own,v_pslot_dat,v_cnl,v_test,v_ktest,v_and,v_kAnd1,v_kAnd0,v_nil,v_cons,v_kcons,v_kcons2,v_fast,v_kfast,v_all0,v_all1,v_kall,v_kall2,v_force_dat,v_force_fr,v_force_slot,v_fslot_own,v_fslot_dat,v_call,v_callF,v_at_ok,v_at_err,v_vB,v_atB,v_vM2,v_vM3,v_pkL,v_peeks0,v_peeks1,v_cons22,v_it_l,v_it_r,v_it_t,v_ret,v_ret_dat,v_ret_fr,v_ret_slot,v_rslot_own,v_rslot_dat,v_retN,v_put_dat,v_put_fr,v_put_slot,v_kput,v_tgN,v_tgNil,v_tgCons,v_ktg,v_tgT,v_runF,v_endF_rt,v_endF_nx,v_endF_er,v_runB,v_endB_rt,v_endB_nx,v_add,v_sub,v_mod,v_neg,v_lt,v_cmp,v_eq,v_ne,v_len_l,v_len_t,v_len_r,v_ixt,v_ixl,v_ixr,v_eq_bb,v_ne_bb,v_chain,v_kch1,v_kch2,v_kch3t,v_kch3f,v_kch4,v_subE_i,List.map_cons,List.map_nil,List.length_cons,List.length_nil,List.cons_append,List.nil_append,List.replicate_succ,List.replicate_zero,List.getElem?_cons_zero,List.getElem?_cons_succ,List.set_cons_zero,List.set_cons_succ,Option.map_some,Nat.reduceSub,Nat.reduceAdd,Nat.reduceLT,Nat.reduceLeDiff,bigN, nn_is_within, hi2, h1] <;> rfl
  all_goals
    simp only [v_bok,v_berr,v_sok,v_serr,v_nx,v_rt,v_bk,v_ct,v_er,v_ofs,v_var,v_slot_dat,v_slot_own,v_c,v_bin,v_kbin,v_op2,v_pk2,v_un,v_op1,v_pk1,v_peek_dat,v_peek_fr,v_peek_slot,v_pslot_own,v_pslot_dat,v_cnl,v_test,v_ktest,v_and,v_kAnd1,v_kAnd0,v_nil,v_cons,v_kcons,v_kcons2,v_fast,v_kfast,v_all0,v_all1,v_kall,v_kall2,v_force_dat,v_force_fr,v_force_slot,v_fslot_own,v_fslot_dat,v_call,v_callF,v_at_ok,v_at_err,v_vB,v_atB,v_vM2,v_vM3,v_pkL,v_peeks0,v_peeks1,v_cons22,v_it_l,v_it_r,v_it_t,v_ret,v_ret_dat,v_ret_fr,v_ret_slot,v_rslot_own,v_rslot_dat,v_retN,v_put_dat,v_put_fr,v_put_slot,v_kput,v_tgN,v_tgNil,v_tgCons,v_ktg,v_tgT,v_runF,v_endF_rt,v_endF_nx,v_endF_er,v_runB,v_endB_rt,v_endB_nx,v_add,v_sub,v_mod,v_neg,v_lt,v_cmp,v_eq,v_ne,v_len_l,v_len_t,v_len_r,v_ixt,v_ixl,v_ixr,v_eq_bb,v_ne_bb,v_chain,v_kch1,v_kch2,v_kch3t,v_kch3f,v_kch4,v_subE_i,List.map_cons,List.map_nil,List.length_cons,List.length_nil,List.cons_append,List.nil_append,List.replicate_succ,List.replicate_zero,List.getElem?_cons_zero,List.getElem?_cons_succ,List.set_cons_zero,List.set_cons_succ,Option.map_some,Nat.reduceSub,Nat.reduceAdd,Nat.reduceLT,Nat.reduceLeDiff,bigN, nn_is_within, hi2]
def pv (d : D) : Bool := match d with
  | .tup es => es.all atom && decide (es.length ≤ 1000)
  | .non => true
  | .int _ => true
  | .lst _ => true
  | _ => false
def isPt (d : D) : Bool := match d with
  | .tup es => (es.length == 2) && es.all inR
  | _ => false
theorem atom_plain {d : D} (h : atom d = true) : plain d = true := by
  cases d <;> first | rfl | cases h
theorem e_is_point {d : D} (h : pv d = true) : F_is_point [d] = .ok (.dat (.bl (isPt d))) := by
  have ng : negD (.int 1000) = some (.dat (.int (-1000))) := rfl
  unfold F_is_point M_is_point
  cases d <;> first | (cases h; done) | skip
  case non =>
    simp only [v_bok,v_berr,v_sok,v_serr,v_nx,v_rt,v_bk,v_ct,v_er,v_ofs,v_var,v_slot_dat,v_slot_own,v_c,v_bin,v_kbin,v_op2,v_pk2,v_un,v_op1,v_pk1,v_peek_dat,v_peek_fr,v_peek_slot,v_pslot_own,v_pslot_dat,v_cnl,v_test,v_ktest,v_orT,v_kor1,v_kor0,v_notT,v_knotT,v_nil,v_cons,v_kcons,v_kcons2,v_fast,v_kfast,v_all0,v_all1,v_kall,v_kall2,v_force_dat,v_force_fr,v_force_slot,v_fslot_own,v_fslot_dat,v_call,v_callF,v_at_ok,v_at_err,v_vB,v_atB,v_vM2,v_vM3,v_cb,v_kcb,v_pkL,v_peeks0,v_peeks1,v_cons22,v_isi,v_iter,v_it_l,v_it_r,v_it_t,v_lc,v_klc,v_klc2,v_yes,v_seq,v_skip,v_ret,v_ret_dat,v_ret_fr,v_ret_slot,v_rslot_own,v_rslot_dat,v_retN,v_ifS,v_kifS1,v_kifS0,v_put_dat,v_put_fr,v_put_slot,v_kput,v_tgN,v_tgNil,v_tgCons,v_ktg,v_tgT,v_runF,v_endF_rt,v_endF_nx,v_endF_er,v_runB,v_endB_rt,v_endB_nx,v_add,v_sub,v_mod,v_neg,v_lt,v_cmp,v_eq,v_ne,v_len_l,v_len_t,v_len_r,v_ixt,v_ixl,v_ixr,v_kb_NoneType_bool,v_kb_NoneType_int,v_kb_NoneType_str,v_kb_NoneType_tuple,v_kb_NoneType_list,v_kb_NoneType_dict,v_kb_bool_bool,v_kb_bool_int,v_kb_bool_str,v_kb_bool_tuple,v_kb_bool_list,v_kb_bool_dict,v_kb_int_bool,v_kb_int_int,v_kb_int_str,v_kb_int_tuple,v_kb_int_list,v_kb_int_dict,v_kb_str_bool,v_kb_str_int,v_kb_str_str,v_kb_str_tuple,v_kb_str_list,v_kb_str_dict,v_kb_tuple_bool,v_kb_tuple_int,v_kb_tuple_str,v_kb_tuple_tuple,v_kb_tuple_list,v_kb_tuple_dict,v_kb_list_bool,v_kb_list_int,v_kb_list_str,v_kb_list_tuple,v_kb_list_list,v_kb_list_dict,v_kb_dict_bool,v_kb_dict_int,v_kb_dict_str,v_kb_dict_tuple,v_kb_dict_list,v_kb_dict_dict,v_isi_non,v_isi_bl,v_isi_int,v_isi_str,v_isi_tup,v_isi_lst,v_isi_dct,v_eq_bb,v_ne_bb,v_subE_i,List.map_cons,List.map_nil,List.length_cons,List.length_nil,List.cons_append,List.nil_append,List.replicate_succ,List.replicate_zero,List.getElem?_cons_zero,List.getElem?_cons_succ,List.set_cons_zero,List.set_cons_succ,Option.map_some,Nat.reduceSub,Nat.reduceAdd,Nat.reduceLT,Nat.reduceLeDiff,bigN, nn_is_point]
    rfl
  case int i =>
    simp only [v_bok,v_berr,v_sok,v_serr,v_nx,v_rt,v_bk,v_ct,v_er,v_ofs,v_var,v_slot_dat,v_slot_own,v_c,v_bin,v_kbin,v_op2,v_pk2,v_un,v_op1,v_pk1,v_peek_dat,v_peek_fr,v_peek_slot,v_pslot_own,v_pslot_dat,v_cnl,v_test,v_ktest,v_orT,v_kor1,v_kor0,v_notT,v_knotT,v_nil,v_cons,v_kcons,v_kcons2,v_fast,v_kfast,v_all0,v_all1,v_kall,v_kall2,v_force_dat,v_force_fr,v_force_slot,v_fslot_own,v_fslot_dat,v_call,v_callF,v_at_ok,v_at_err,v_vB,v_atB,v_vM2,v_vM3,v_cb,v_kcb,v_pkL,v_peeks0,v_peeks1,v_cons22,v_isi,v_iter,v_it_l,v_it_r,v_it_t,v_lc,v_klc,v_klc2,v_yes,v_seq,v_skip,v_ret,v_ret_dat,v_ret_fr,v_ret_slot,v_rslot_own,v_rslot_dat,v_retN,v_ifS,v_kifS1,v_kifS0,v_put_dat,v_put_fr,v_put_slot,v_kput,v_tgN,v_tgNil,v_tgCons,v_ktg,v_tgT,v_runF,v_endF_rt,v_endF_nx,v_endF_er,v_runB,v_endB_rt,v_endB_nx,v_add,v_sub,v_mod,v_neg,v_lt,v_cmp,v_eq,v_ne,v_len_l,v_len_t,v_len_r,v_ixt,v_ixl,v_ixr,v_kb_NoneType_bool,v_kb_NoneType_int,v_kb_NoneType_str,v_kb_NoneType_tuple,v_kb_NoneType_list,v_kb_NoneType_dict,v_kb_bool_bool,v_kb_bool_int,v_kb_bool_str,v_kb_bool_tuple,v_kb_bool_list,v_kb_bool_dict,v_kb_int_bool,v_kb_int_int,v_kb_int_str,v_kb_int_tuple,v_kb_int_list,v_kb_int_dict,v_kb_str_bool,v_kb_str_int,v_kb_str_str,v_kb_str_tuple,v_kb_str_list,v_kb_str_dict,v_kb_tuple_bool,v_kb_tuple_int,v_kb_tuple_str,v_kb_tuple_tuple,v_kb_tuple_list,v_kb_tuple_dict,v_kb_list_bool,v_kb_list_int,v_kb_list_str,v_kb_list_tuple,v_kb_list_list,v_kb_list_dict,v_kb_dict_bool,v_kb_dict_int,v_kb_dict_str,v_kb_dict_tuple,v_kb_dict_list,v_kb_dict_dict,v_isi_non,v_isi_bl,v_isi_int,v_isi_str,v_isi_tup,v_isi_lst,v_isi_dct,v_eq_bb,v_ne_bb,v_subE_i,List.map_cons,List.map_nil,List.length_cons,List.length_nil,List.cons_append,List.nil_append,List.replicate_succ,List.replicate_zero,List.getElem?_cons_zero,List.getElem?_cons_succ,List.set_cons_zero,List.set_cons_succ,Option.map_some,Nat.reduceSub,Nat.reduceAdd,Nat.reduceLT,Nat.reduceLeDiff,bigN, nn_is_point]
    rfl
  case lst l =>
    simp only [v_bok,v_berr,v_sok,v_serr,v_nx,v_rt,v_bk,v_ct,v_er,v_ofs,v_var,v_slot_dat,v_slot_own,v_c,v_bin,v_kbin,v_op2,v_pk2,v_un,v_op1,v_pk1,v_peek_dat,v_peek_fr,v_peek_slot,v_pslot_own,v_pslot_dat,v_cnl,v_test,v_ktest,v_orT,v_kor1,v_kor0,v_notT,v_knotT,v_nil,v_cons,v_kcons,v_kcons2,v_fast,v_kfast,v_all0,v_all1,v_kall,v_kall2,v_force_dat,v_force_fr,v_force_slot,v_fslot_own,v_fslot_dat,v_call,v_callF,v_at_ok,v_at_err,v_vB,v_atB,v_vM2,v_vM3,v_cb,v_kcb,v_pkL,v_peeks0,v_peeks1,v_cons22,v_isi,v_iter,v_it_l,v_it_r,v_it_t,v_lc,v_klc,v_klc2,v_yes,v_seq,v_skip,v_ret,v_ret_dat,v_ret_fr,v_ret_slot,v_rslot_own,v_rslot_dat,v_retN,v_ifS,v_kifS1,v_kifS0,v_put_dat,v_put_fr,v_put_slot,v_kput,v_tgN,v_tgNil,v_tgCons,v_ktg,v_tgT,v_runF,v_endF_rt,v_endF_nx,v_endF_er,v_runB,v_endB_rt,v_endB_nx,v_add,v_sub,v_mod,v_neg,v_lt,v_cmp,v_eq,v_ne,v_len_l,v_len_t,v_len_r,v_ixt,v_ixl,v_ixr,v_kb_NoneType_bool,v_kb_NoneType_int,v_kb_NoneType_str,v_kb_NoneType_tuple,v_kb_NoneType_list,v_kb_NoneType_dict,v_kb_bool_bool,v_kb_bool_int,v_kb_bool_str,v_kb_bool_tuple,v_kb_bool_list,v_kb_bool_dict,v_kb_int_bool,v_kb_int_int,v_kb_int_str,v_kb_int_tuple,v_kb_int_list,v_kb_int_dict,v_kb_str_bool,v_kb_str_int,v_kb_str_str,v_kb_str_tuple,v_kb_str_list,v_kb_str_dict,v_kb_tuple_bool,v_kb_tuple_int,v_kb_tuple_str,v_kb_tuple_tuple,v_kb_tuple_list,v_kb_tuple_dict,v_kb_list_bool,v_kb_list_int,v_kb_list_str,v_kb_list_tuple,v_kb_list_list,v_kb_list_dict,v_kb_dict_bool,v_kb_dict_int,v_kb_dict_str,v_kb_dict_tuple,v_kb_dict_list,v_kb_dict_dict,v_isi_non,v_isi_bl,v_isi_int,v_isi_str,v_isi_tup,v_isi_lst,v_isi_dct,v_eq_bb,v_ne_bb,v_subE_i,List.map_cons,List.map_nil,List.length_cons,List.length_nil,List.cons_append,List.nil_append,List.replicate_succ,List.replicate_zero,List.getElem?_cons_zero,List.getElem?_cons_succ,List.set_cons_zero,List.set_cons_succ,Option.map_some,Nat.reduceSub,Nat.reduceAdd,Nat.reduceLT,Nat.reduceLeDiff,bigN, nn_is_point]
    rfl
  case tup es =>
    unfold pv at h
    dsimp only at h
    obtain ⟨h1, h2⟩ := Bool.and_eq_true_iff.mp h
    have h3 := of_decide_eq_true h2
    have r : compL [1] (tgN 1) mYes C_is_point_0 es [] [.dat (.tup es), .emp] = .ok (es.map fun d => .bl (inR d)) [.dat (.tup es), .emp] := by
      refine comp_all (fun d => .bl (inR d)) (fun x hx => ?_) (by show _ ≤ 1000000; omega)
      have hw := e_within (lo := -1000) (hi := 1000) (atom_plain (List.all_eq_true.mp h1 x hx))
      refine ⟨[.dat (.tup es), .dat x], [.dat (.tup es), .dat x], .dat (.bl (inR x)), [.dat (.tup es), .dat x], [.dat (.tup es), .dat x], rfl, rfl, ?_, rfl, rfl⟩
      simp only [v_bok,v_berr,v_sok,v_serr,v_nx,v_rt,v_bk,v_ct,v_er,v_ofs,v_var,v_slot_dat,v_slot_own,v_c,v_bin,v_kbin,v_op2,v_pk2,v_un,v_op1,v_pk1,v_peek_dat,v_peek_fr,v_peek_slot,v_pslot_own,v_pslot_dat,v_cnl,v_test,v_ktest,v_orT,v_kor1,v_kor0,v_notT,v_knotT,v_nil,v_cons,v_kcons,v_kcons2,v_fast,v_kfast,v_all0,v_all1,v_kall,v_kall2,v_force_dat,v_force_fr,v_force_slot,v_fslot_own,v_fslot_dat,v_call,v_callF,v_at_ok,v_at_err,v_vB,v_atB,v_vM2,v_vM3,v_cb,v_kcb,v_pkL,v_peeks0,v_peeks1,v_cons22,v_isi,v_iter,v_it_l,v_it_r,v_it_t,v_lc,v_klc,v_klc2,v_yes,v_seq,v_skip,v_ret,v_ret_dat,v_ret_fr,v_ret_slot,v_rslot_own,v_rslot_dat,v_retN,v_ifS,v_kifS1,v_kifS0,v_put_dat,v_put_fr,v_put_slot,v_kput,v_tgN,v_tgNil,v_tgCons,v_ktg,v_tgT,v_runF,v_endF_rt,v_endF_nx,v_endF_er,v_runB,v_endB_rt,v_endB_nx,v_add,v_sub,v_mod,v_neg,v_lt,v_cmp,v_eq,v_ne,v_len_l,v_len_t,v_len_r,v_ixt,v_ixl,v_ixr,v_kb_NoneType_bool,v_kb_NoneType_int,v_kb_NoneType_str,v_kb_NoneType_tuple,v_kb_NoneType_list,v_kb_NoneType_dict,v_kb_bool_bool,v_kb_bool_int,v_kb_bool_str,v_kb_bool_tuple,v_kb_bool_list,v_kb_bool_dict,v_kb_int_bool,v_kb_int_int,v_kb_int_str,v_kb_int_tuple,v_kb_int_list,v_kb_int_dict,v_kb_str_bool,v_kb_str_int,v_kb_str_str,v_kb_str_tuple,v_kb_str_list,v_kb_str_dict,v_kb_tuple_bool,v_kb_tuple_int,v_kb_tuple_str,v_kb_tuple_tuple,v_kb_tuple_list,v_kb_tuple_dict,v_kb_list_bool,v_kb_list_int,v_kb_list_str,v_kb_list_tuple,v_kb_list_list,v_kb_list_dict,v_kb_dict_bool,v_kb_dict_int,v_kb_dict_str,v_kb_dict_tuple,v_kb_dict_list,v_kb_dict_dict,v_isi_non,v_isi_bl,v_isi_int,v_isi_str,v_isi_tup,v_isi_lst,v_isi_dct,v_eq_bb,v_ne_bb,v_subE_i,List.map_cons,List.map_nil,List.length_cons,List.length_nil,List.cons_append,List.nil_append,List.replicate_succ,List.replicate_zero,List.getElem?_cons_zero,List.getElem?_cons_succ,List.set_cons_zero,List.set_cons_succ,Option.map_some,Nat.reduceSub,Nat.reduceAdd,Nat.reduceLT,Nat.reduceLeDiff,bigN, C_is_point_0, ng, hw]
      cases x <;> rfl
    unfold isPt
    dsimp only
    have e : ((es.length : Int) == 2) = (es.length == 2) := by
      by_cases q : es.length = 2
      · rw [q]; rfl
      · rw [beq_eq_false_iff_ne.mpr q, beq_eq_false_iff_ne.mpr (by omega)]
    cases h0 : (es.length == 2)
    · rw [h0] at e
      simp only [v_bok,v_berr,v_sok,v_serr,v_nx,v_rt,v_bk,v_ct,v_er,v_ofs,v_var,v_slot_dat,v_slot_own,v_c,v_bin,v_kbin,v_op2,v_pk2,v_un,v_op1,v_pk1,v_peek_dat,v_peek_fr,v_peek_slot,v_pslot_own,v_pslot_dat,v_cnl,v_test,v_ktest,v_orT,v_kor1,v_kor0,v_notT,v_knotT,v_nil,v_cons,v_kcons,v_kcons2,v_fast,v_kfast,v_all0,v_all1,v_kall,v_kall2,v_force_dat,v_force_fr,v_force_slot,v_fslot_own,v_fslot_dat,v_call,v_callF,v_at_ok,v_at_err,v_vB,v_atB,v_vM2,v_vM3,v_cb,v_kcb,v_pkL,v_peeks0,v_peeks1,v_cons22,v_isi,v_iter,v_it_l,v_it_r,v_it_t,v_lc,v_klc,v_klc2,v_yes,v_seq,v_skip,v_ret,v_ret_dat,v_ret_fr,v_ret_slot,v_rslot_own,v_rslot_dat,v_retN,v_ifS,v_kifS1,v_kifS0,v_put_dat,v_put_fr,v_put_slot,v_kput,v_tgN,v_tgNil,v_tgCons,v_ktg,v_tgT,v_runF,v_endF_rt,v_endF_nx,v_endF_er,v_runB,v_endB_rt,v_endB_nx,v_add,v_sub,v_mod,v_neg,v_lt,v_cmp,v_eq,v_ne,v_len_l,v_len_t,v_len_r,v_ixt,v_ixl,v_ixr,v_kb_NoneType_bool,v_kb_NoneType_int,v_kb_NoneType_str,v_kb_NoneType_tuple,v_kb_NoneType_list,v_kb_NoneType_dict,v_kb_bool_bool,v_kb_bool_int,v_kb_bool_str,v_kb_bool_tuple,v_kb_bool_list,v_kb_bool_dict,v_kb_int_bool,v_kb_int_int,v_kb_int_str,v_kb_int_tuple,v_kb_int_list,v_kb_int_dict,v_kb_str_bool,v_kb_str_int,v_kb_str_str,v_kb_str_tuple,v_kb_str_list,v_kb_str_dict,v_kb_tuple_bool,v_kb_tuple_int,v_kb_tuple_str,v_kb_tuple_tuple,v_kb_tuple_list,v_kb_tuple_dict,v_kb_list_bool,v_kb_list_int,v_kb_list_str,v_kb_list_tuple,v_kb_list_list,v_kb_list_dict,v_kb_dict_bool,v_kb_dict_int,v_kb_dict_str,v_kb_dict_tuple,v_kb_dict_list,v_kb_dict_dict,v_isi_non,v_isi_bl,v_isi_int,v_isi_str,v_isi_tup,v_isi_lst,v_isi_dct,v_eq_bb,v_ne_bb,v_subE_i,List.map_cons,List.map_nil,List.length_cons,List.length_nil,List.cons_append,List.nil_append,List.replicate_succ,List.replicate_zero,List.getElem?_cons_zero,List.getElem?_cons_succ,List.set_cons_zero,List.set_cons_succ,Option.map_some,Nat.reduceSub,Nat.reduceAdd,Nat.reduceLT,Nat.reduceLeDiff,bigN, nn_is_point, e, Bool.not_true, Bool.not_false]
      rfl
    · rw [h0] at e
      simp only [v_bok,v_berr,v_sok,v_serr,v_nx,v_rt,v_bk,v_ct,v_er,v_ofs,v_var,v_slot_dat,v_slot_own,v_c,v_bin,v_kbin,v_op2,v_pk2,v_un,v_op1,v_pk1,v_peek_dat,v_peek_fr,v_peek_slot,v_pslot_own,v_pslot_dat,v_cnl,v_test,v_ktest,v_orT,v_kor1,v_kor0,v_notT,v_knotT,v_nil,v_cons,v_kcons,v_kcons2,v_fast,v_kfast,v_all0,v_all1,v_kall,v_kall2,v_force_dat,v_force_fr,v_force_slot,v_fslot_own,v_fslot_dat,v_call,v_callF,v_at_ok,v_at_err,v_vB,v_atB,v_vM2,v_vM3,v_cb,v_kcb,v_pkL,v_peeks0,v_peeks1,v_cons22,v_isi,v_iter,v_it_l,v_it_r,v_it_t,v_lc,v_klc,v_klc2,v_yes,v_seq,v_skip,v_ret,v_ret_dat,v_ret_fr,v_ret_slot,v_rslot_own,v_rslot_dat,v_retN,v_ifS,v_kifS1,v_kifS0,v_put_dat,v_put_fr,v_put_slot,v_kput,v_tgN,v_tgNil,v_tgCons,v_ktg,v_tgT,v_runF,v_endF_rt,v_endF_nx,v_endF_er,v_runB,v_endB_rt,v_endB_nx,v_add,v_sub,v_mod,v_neg,v_lt,v_cmp,v_eq,v_ne,v_len_l,v_len_t,v_len_r,v_ixt,v_ixl,v_ixr,v_kb_NoneType_bool,v_kb_NoneType_int,v_kb_NoneType_str,v_kb_NoneType_tuple,v_kb_NoneType_list,v_kb_NoneType_dict,v_kb_bool_bool,v_kb_bool_int,v_kb_bool_str,v_kb_bool_tuple,v_kb_bool_list,v_kb_bool_dict,v_kb_int_bool,v_kb_int_int,v_kb_int_str,v_kb_int_tuple,v_kb_int_list,v_kb_int_dict,v_kb_str_bool,v_kb_str_int,v_kb_str_str,v_kb_str_tuple,v_kb_str_list,v_kb_str_dict,v_kb_tuple_bool,v_kb_tuple_int,v_kb_tuple_str,v_kb_tuple_tuple,v_kb_tuple_list,v_kb_tuple_dict,v_kb_list_bool,v_kb_list_int,v_kb_list_str,v_kb_list_tuple,v_kb_list_list,v_kb_list_dict,v_kb_dict_bool,v_kb_dict_int,v_kb_dict_str,v_kb_dict_tuple,v_kb_dict_list,v_kb_dict_dict,v_isi_non,v_isi_bl,v_isi_int,v_isi_str,v_isi_tup,v_isi_lst,v_isi_dct,v_eq_bb,v_ne_bb,v_subE_i,List.map_cons,List.map_nil,List.length_cons,List.length_nil,List.cons_append,List.nil_append,List.replicate_succ,List.replicate_zero,List.getElem?_cons_zero,List.getElem?_cons_succ,List.set_cons_zero,List.set_cons_succ,Option.map_some,Nat.reduceSub,Nat.reduceAdd,Nat.reduceLT,Nat.reduceLeDiff,bigN, nn_is_point, e, Bool.not_true, Bool.not_false, r, allD_bl]
      rfl
theorem isPt_pt {d : D} (h : isPt d = true) : ∃ a : Pt, d = pt a ∧ Sm a := by
  unfold isPt at h
  cases d <;> first | (cases h; done) | skip
  case tup es =>
    obtain ⟨h1, h2⟩ := Bool.and_eq_true_iff.mp h
    have h3 := eq_of_beq h1
    clear h1
    match es, h3, h2 with
    | [x, y], _, h2 =>
      clear h3
      simp only [List.all_cons, List.all_nil, Bool.and_true, Bool.and_eq_true_iff] at h2
      cases x <;> first | (cases h2.1; done) | skip
      cases y <;> first | (cases h2.2; done) | skip
      rename_i i j _
      obtain ⟨p, q⟩ := h2
      unfold inR at p q
      simp only [Bool.and_eq_true_iff, decide_eq_true_eq] at p q
      exact ⟨(i, j), rfl, p.1, p.2, q.1, q.2⟩
theorem isPt_of {a : Pt} (h : Sm a) : isPt (pt a) = true := by
  obtain ⟨h1, h2, h3, h4⟩ := h
  simp [isPt, pt, inR, h1, h2, h3, h4]
theorem wk_isPt {l : List Pt} (h : ∀ a ∈ l, Sm a) : (wk l).all isPt = true := by
  rw [List.all_eq_true]
  intro d hd
  obtain ⟨a, ha, rfl⟩ := List.mem_map.mp hd
  exact isPt_of (h a ha)
theorem eq_pt {a b : Pt} : eqD (pt a) (pt b) = some (.dat (.bl (decide (a = b)))) := by
  unfold eqD
  have : eqB (pt a) (pt b) = some (decide (a = b)) := by
    show (if SeqAt.shaped (.tuple [.int a.1, .int a.2]) = true ∧ SeqAt.shaped (.tuple [.int b.1, .int b.2]) = true then some (PyData.eqv (.tuple [.int a.1, .int a.2]) (.tuple [.int b.1, .int b.2])) else none) = _
    rw [if_pos ⟨rfl, rfl⟩]
    congr 1
    show (a.1 == b.1 && (a.2 == b.2 && true)) = decide (a = b)
    by_cases e : a = b
    · subst e; simp
    · rw [decide_eq_false e]
      by_cases e1 : a.1 = b.1
      · by_cases e2 : a.2 = b.2
        · exact absurd (Prod.ext e1 e2) e
        · simp [e2]
      · simp [e1]
  rw [this]
  rfl
theorem ne_pt {a b : Pt} : neD (pt a) (pt b) = some (.dat (.bl (!decide (a = b)))) := by
  have h := eq_pt (a := a) (b := b)
  unfold eqD at h
  unfold neD
  cases q : eqB (pt a) (pt b) with
  | none => rw [q] at h; cases h
  | some c =>
    rw [q] at h
    have : c = decide (a = b) := by
      simpa using h
    rw [this]
    rfl
theorem fm_nat {x y : Nat} : (x : Int).fmod (y : Int) = ((x % y : Nat) : Int) := by
  rw [Int.fmod_eq_emod_of_nonneg _ (by omega)]
  rfl
theorem gcd_step {x y : Nat} : Nat.gcd y (x % y) = Nat.gcd x y := by
  rw [Nat.gcd_comm y, ← Nat.gcd_rec, Nat.gcd_comm]
theorem ab_nat {n : Int} : (if n < 0 then -n else n) = (n.natAbs : Int) := by split <;> omega
theorem e_shared {n d : Int} : F_shared [.int n, .int d] = .ok (.dat (.int (Int.gcd n d))) := by
  have key := while_rule (c := T_shared_0) (b := B_shared_0) (R := fun r => ∃ z, r = .nx [.dat (.int n), .dat (.int d), .dat (.int (Int.gcd n d)), z])
    (fun k τ => ∃ x y : Nat, τ = [.dat (.int n), .dat (.int d), .dat (.int x), .dat (.int y)] ∧ Nat.gcd x y = Int.gcd n d ∧ k = y)
    (fun k τ ⟨x, y, eτ, h, ek⟩ => by
      subst eτ
      by_cases hy : (0 : Int) < y
      · refine .inr ⟨[.dat (.int n), .dat (.int d), .dat (.int x), .dat (.int y)], ?_, .inl ⟨x % y, [.dat (.int n), .dat (.int d), .dat (.int y), .dat (.int ((x % y : Nat) : Int))], .inl ?_, ?_, y, x % y, rfl, by rw [gcd_step, h], rfl⟩⟩
        · simp only [v_bok,v_berr,v_sok,v_serr,v_nx,v_rt,v_bk,v_ct,v_er,v_ofs,v_var,v_slot_dat,v_slot_own,v_c,v_bin,v_kbin,v_op2,v_pk2,v_un,v_op1,v_pk1,v_peek_dat,v_peek_fr,v_peek_slot,v_pslot_own,v_pslot_dat,v_cnl,v_test,v_ktest,v_nil,v_cons,v_kcons,v_kcons2,v_all0,v_all1,v_kall,v_kall2,v_force_dat,v_force_fr,v_force_slot,v_fslot_own,v_fslot_dat,v_at_ok,v_at_err,v_vB,v_atB,v_vM2,v_vM3,v_cb,v_kcb,v_pkL,v_peeks0,v_peeks1,v_cons22,v_it_l,v_it_r,v_it_t,v_seq,v_ret,v_ret_dat,v_ret_fr,v_ret_slot,v_rslot_own,v_rslot_dat,v_retN,v_put_dat,v_put_fr,v_put_slot,v_kput,v_tgN,v_tgNil,v_tgCons,v_ktg,v_tgT,v_par,v_kpar,v_kpar1,v_kpar2,v_kpar3,v_fix_dat,v_fix_fr,v_fix_slot,v_kfix,v_runF,v_endF_rt,v_endF_nx,v_endF_er,v_runB,v_endB_rt,v_endB_nx,v_add,v_sub,v_mod,v_neg,v_lt,v_cmp,v_eq,v_ne,v_absD,v_len_l,v_len_t,v_len_r,v_ixt,v_ixl,v_ixr,v_eq_bb,v_ne_bb,v_subE_i,List.map_cons,List.map_nil,List.length_cons,List.length_nil,List.cons_append,List.nil_append,List.replicate_succ,List.replicate_zero,List.getElem?_cons_zero,List.getElem?_cons_succ,List.set_cons_zero,List.set_cons_succ,Option.map_some,Nat.reduceSub,Nat.reduceAdd,Nat.reduceLT,Nat.reduceLeDiff,bigN, T_shared_0]
          rw [decide_eq_true hy]
        · have hy0 : (y : Int) ≠ 0 := by omega
          simp only [v_bok,v_berr,v_sok,v_serr,v_nx,v_rt,v_bk,v_ct,v_er,v_ofs,v_var,v_slot_dat,v_slot_own,v_c,v_bin,v_kbin,v_op2,v_pk2,v_un,v_op1,v_pk1,v_peek_dat,v_peek_fr,v_peek_slot,v_pslot_own,v_pslot_dat,v_cnl,v_test,v_ktest,v_nil,v_cons,v_kcons,v_kcons2,v_all0,v_all1,v_kall,v_kall2,v_force_dat,v_force_fr,v_force_slot,v_fslot_own,v_fslot_dat,v_at_ok,v_at_err,v_vB,v_atB,v_vM2,v_vM3,v_cb,v_kcb,v_pkL,v_peeks0,v_peeks1,v_cons22,v_it_l,v_it_r,v_it_t,v_seq,v_ret,v_ret_dat,v_ret_fr,v_ret_slot,v_rslot_own,v_rslot_dat,v_retN,v_put_dat,v_put_fr,v_put_slot,v_kput,v_tgN,v_tgNil,v_tgCons,v_ktg,v_tgT,v_par,v_kpar,v_kpar1,v_kpar2,v_kpar3,v_fix_dat,v_fix_fr,v_fix_slot,v_kfix,v_runF,v_endF_rt,v_endF_nx,v_endF_er,v_runB,v_endB_rt,v_endB_nx,v_add,v_sub,v_mod,v_neg,v_lt,v_cmp,v_eq,v_ne,v_absD,v_len_l,v_len_t,v_len_r,v_ixt,v_ixl,v_ixr,v_eq_bb,v_ne_bb,v_subE_i,List.map_cons,List.map_nil,List.length_cons,List.length_nil,List.cons_append,List.nil_append,List.replicate_succ,List.replicate_zero,List.getElem?_cons_zero,List.getElem?_cons_succ,List.set_cons_zero,List.set_cons_succ,Option.map_some,Nat.reduceSub,Nat.reduceAdd,Nat.reduceLT,Nat.reduceLeDiff,bigN, B_shared_0, v_mod hy0, fm_nat]
        · rw [ek]; exact Nat.mod_lt _ (by omega)
      · refine .inl ⟨[.dat (.int n), .dat (.int d), .dat (.int x), .dat (.int y)], ?_, ?_⟩
        · simp only [v_bok,v_berr,v_sok,v_serr,v_nx,v_rt,v_bk,v_ct,v_er,v_ofs,v_var,v_slot_dat,v_slot_own,v_c,v_bin,v_kbin,v_op2,v_pk2,v_un,v_op1,v_pk1,v_peek_dat,v_peek_fr,v_peek_slot,v_pslot_own,v_pslot_dat,v_cnl,v_test,v_ktest,v_nil,v_cons,v_kcons,v_kcons2,v_all0,v_all1,v_kall,v_kall2,v_force_dat,v_force_fr,v_force_slot,v_fslot_own,v_fslot_dat,v_at_ok,v_at_err,v_vB,v_atB,v_vM2,v_vM3,v_cb,v_kcb,v_pkL,v_peeks0,v_peeks1,v_cons22,v_it_l,v_it_r,v_it_t,v_seq,v_ret,v_ret_dat,v_ret_fr,v_ret_slot,v_rslot_own,v_rslot_dat,v_retN,v_put_dat,v_put_fr,v_put_slot,v_kput,v_tgN,v_tgNil,v_tgCons,v_ktg,v_tgT,v_par,v_kpar,v_kpar1,v_kpar2,v_kpar3,v_fix_dat,v_fix_fr,v_fix_slot,v_kfix,v_runF,v_endF_rt,v_endF_nx,v_endF_er,v_runB,v_endB_rt,v_endB_nx,v_add,v_sub,v_mod,v_neg,v_lt,v_cmp,v_eq,v_ne,v_absD,v_len_l,v_len_t,v_len_r,v_ixt,v_ixl,v_ixr,v_eq_bb,v_ne_bb,v_subE_i,List.map_cons,List.map_nil,List.length_cons,List.length_nil,List.cons_append,List.nil_append,List.replicate_succ,List.replicate_zero,List.getElem?_cons_zero,List.getElem?_cons_succ,List.set_cons_zero,List.set_cons_succ,Option.map_some,Nat.reduceSub,Nat.reduceAdd,Nat.reduceLT,Nat.reduceLeDiff,bigN, T_shared_0]
          rw [decide_eq_false hy]
        · have : y = 0 := by omega
          subst this
          rw [Nat.gcd_zero_right] at h
          exact ⟨_, by rw [h]⟩) (k := d.natAbs) (τ := [.dat (.int n), .dat (.int d), .dat (.int n.natAbs), .dat (.int d.natAbs)]) ⟨n.natAbs, d.natAbs, rfl, rfl, rfl⟩
  obtain ⟨z, e⟩ := key
  unfold F_shared M_shared
  simp only [v_bok,v_berr,v_sok,v_serr,v_nx,v_rt,v_bk,v_ct,v_er,v_ofs,v_var,v_slot_dat,v_slot_own,v_c,v_bin,v_kbin,v_op2,v_pk2,v_un,v_op1,v_pk1,v_peek_dat,v_peek_fr,v_peek_slot,v_pslot_own,v_pslot_dat,v_cnl,v_test,v_ktest,v_nil,v_cons,v_kcons,v_kcons2,v_all0,v_all1,v_kall,v_kall2,v_force_dat,v_force_fr,v_force_slot,v_fslot_own,v_fslot_dat,v_at_ok,v_at_err,v_vB,v_atB,v_vM2,v_vM3,v_cb,v_kcb,v_pkL,v_peeks0,v_peeks1,v_cons22,v_it_l,v_it_r,v_it_t,v_seq,v_ret,v_ret_dat,v_ret_fr,v_ret_slot,v_rslot_own,v_rslot_dat,v_retN,v_put_dat,v_put_fr,v_put_slot,v_kput,v_tgN,v_tgNil,v_tgCons,v_ktg,v_tgT,v_par,v_kpar,v_kpar1,v_kpar2,v_kpar3,v_fix_dat,v_fix_fr,v_fix_slot,v_kfix,v_runF,v_endF_rt,v_endF_nx,v_endF_er,v_runB,v_endB_rt,v_endB_nx,v_add,v_sub,v_mod,v_neg,v_lt,v_cmp,v_eq,v_ne,v_absD,v_len_l,v_len_t,v_len_r,v_ixt,v_ixl,v_ixr,v_eq_bb,v_ne_bb,v_subE_i,List.map_cons,List.map_nil,List.length_cons,List.length_nil,List.cons_append,List.nil_append,List.replicate_succ,List.replicate_zero,List.getElem?_cons_zero,List.getElem?_cons_succ,List.set_cons_zero,List.set_cons_succ,Option.map_some,Nat.reduceSub,Nat.reduceAdd,Nat.reduceLT,Nat.reduceLeDiff,bigN, nn_shared, ab_nat, e]
end Lw
set_option maxHeartbeats 1000000
namespace Lw
open PySem DL
def det (a b c : Pt) : Int := (b.1 - a.1) * (c.2 - a.2) - (b.2 - a.2) * (c.1 - a.1)
theorem e_turned {a b c : Pt} (ha : Sm a) (hb : Sm b) : F_turned [pt a, pt b, pt c] = .ok (.dat (.int (det a b c))) := by
  obtain ⟨a1, a2, a3, a4⟩ := ha
  obtain ⟨b1, b2, b3, b4⟩ := hb
  have k1 : L2.CMul (b.1 - a.1) (c.2 - a.2) := cL (by omega) (by omega)
  have k2 : L2.CMul (b.2 - a.2) (c.1 - a.1) := cL (by omega) (by omega)
  unfold F_turned M_turned pt
  simp only [v_bok,v_berr,v_sok,v_serr,v_nx,v_rt,v_bk,v_ct,v_er,v_ofs,v_var,v_slot_dat,v_slot_own,v_c,v_bin,v_kbin,v_op2,v_pk2,v_un,v_op1,v_pk1,v_peek_dat,v_peek_fr,v_peek_slot,v_pslot_own,v_pslot_dat,v_cnl,v_test,v_ktest,v_nil,v_cons,v_kcons,v_kcons2,v_all0,v_all1,v_kall,v_kall2,v_force_dat,v_force_fr,v_force_slot,v_fslot_own,v_fslot_dat,v_at_ok,v_at_err,v_vB,v_atB,v_vM2,v_vM3,v_pkL,v_peeks0,v_peeks1,v_cons22,v_it_l,v_it_r,v_it_t,v_ret,v_ret_dat,v_ret_fr,v_ret_slot,v_rslot_own,v_rslot_dat,v_retN,v_put_dat,v_put_fr,v_put_slot,v_kput,v_tgN,v_tgNil,v_tgCons,v_ktg,v_tgT,v_runF,v_endF_rt,v_endF_nx,v_endF_er,v_runB,v_endB_rt,v_endB_nx,v_add,v_sub,v_mod,v_neg,v_lt,v_cmp,v_eq,v_ne,v_len_l,v_len_t,v_len_r,v_ixt,v_ixl,v_ixr,v_eq_bb,v_ne_bb,v_mulE_i,v_mulE_t,v_mulE_l,v_subE_i,v_subE_b,List.map_cons,List.map_nil,List.length_cons,List.length_nil,List.cons_append,List.nil_append,List.replicate_succ,List.replicate_zero,List.getElem?_cons_zero,List.getElem?_cons_succ,List.set_cons_zero,List.set_cons_succ,Option.map_some,Nat.reduceSub,Nat.reduceAdd,Nat.reduceLT,Nat.reduceLeDiff,bigN, nn_turned, at0, at1, v_mulE_i k1, v_mulE_i k2]
  rfl
theorem e_law_turn {a b c : Pt} (ha : Sm a) (hb : Sm b) : F_law_turn [pt a, pt b, pt c] = .ok (.dat (.int (det a b c))) := by
  obtain ⟨a1, a2, a3, a4⟩ := ha
  obtain ⟨b1, b2, b3, b4⟩ := hb
  have k1 : L2.CMul (b.1 - a.1) (c.2 - a.2) := cL (by omega) (by omega)
  have k2 : L2.CMul (b.2 - a.2) (c.1 - a.1) := cL (by omega) (by omega)
  unfold F_law_turn M_law_turn pt
  simp only [v_bok,v_berr,v_sok,v_serr,v_nx,v_rt,v_bk,v_ct,v_er,v_ofs,v_var,v_slot_dat,v_slot_own,v_c,v_bin,v_kbin,v_op2,v_pk2,v_un,v_op1,v_pk1,v_peek_dat,v_peek_fr,v_peek_slot,v_pslot_own,v_pslot_dat,v_cnl,v_test,v_ktest,v_nil,v_cons,v_kcons,v_kcons2,v_all0,v_all1,v_kall,v_kall2,v_force_dat,v_force_fr,v_force_slot,v_fslot_own,v_fslot_dat,v_at_ok,v_at_err,v_vB,v_atB,v_vM2,v_vM3,v_pkL,v_peeks0,v_peeks1,v_cons22,v_it_l,v_it_r,v_it_t,v_ret,v_ret_dat,v_ret_fr,v_ret_slot,v_rslot_own,v_rslot_dat,v_retN,v_put_dat,v_put_fr,v_put_slot,v_kput,v_tgN,v_tgNil,v_tgCons,v_ktg,v_tgT,v_runF,v_endF_rt,v_endF_nx,v_endF_er,v_runB,v_endB_rt,v_endB_nx,v_add,v_sub,v_mod,v_neg,v_lt,v_cmp,v_eq,v_ne,v_len_l,v_len_t,v_len_r,v_ixt,v_ixl,v_ixr,v_eq_bb,v_ne_bb,v_mulE_i,v_mulE_t,v_mulE_l,v_subE_i,v_subE_b,List.map_cons,List.map_nil,List.length_cons,List.length_nil,List.cons_append,List.nil_append,List.replicate_succ,List.replicate_zero,List.getElem?_cons_zero,List.getElem?_cons_succ,List.set_cons_zero,List.set_cons_succ,Option.map_some,Nat.reduceSub,Nat.reduceAdd,Nat.reduceLT,Nat.reduceLeDiff,bigN, nn__law_turn, at0, at1, v_mulE_i k1, v_mulE_i k2]
  rfl
end Lw
set_option maxHeartbeats 1000000
namespace Lw
open PySem DL
theorem e_check_points {ds : List D} (hp : ∀ d ∈ ds, pv d = true) (hl : ds.length ≤ 1000) : F_check_points [.lst ds] = cond (ds.all isPt) (.ok (.dat .non)) (.err 2) := by
  have r : compL [1] (tgN 1) mYes C_check_points_0 ds [] [.dat (.lst ds), .emp] = .ok (ds.map fun d => .bl (isPt d)) [.dat (.lst ds), .emp] := by
    refine comp_all (fun d => .bl (isPt d)) (fun x hx => ?_) (by show _ ≤ 1000000; omega)
    have hw := e_is_point (hp x hx)
    refine ⟨[.dat (.lst ds), .dat x], [.dat (.lst ds), .dat x], .dat (.bl (isPt x)), [.dat (.lst ds), .dat x], [.dat (.lst ds), .dat x], rfl, rfl, ?_, rfl, rfl⟩
    simp only [v_bok,v_berr,v_sok,v_serr,v_nx,v_rt,v_bk,v_ct,v_er,v_ofs,v_var,v_slot_dat,v_slot_own,v_c,v_bin,v_kbin,v_op2,v_pk2,v_un,v_op1,v_pk1,v_peek_dat,v_peek_fr,v_peek_slot,v_pslot_own,v_pslot_dat,v_cnl,v_test,v_ktest,v_notT,v_knotT,v_nil,v_cons,v_kcons,v_kcons2,v_fast,v_kfast,v_all0,v_all1,v_kall,v_kall2,v_force_dat,v_force_fr,v_force_slot,v_fslot_own,v_fslot_dat,v_call,v_callF,v_at_ok,v_at_err,v_vB,v_atB,v_vM2,v_vM3,v_cb,v_kcb,v_pkL,v_peeks0,v_peeks1,v_cons22,v_iter,v_it_l,v_it_r,v_it_t,v_lc,v_klc,v_klc2,v_yes,v_skip,v_raise,v_ret_dat,v_ret_fr,v_ret_slot,v_rslot_own,v_rslot_dat,v_retN,v_ifS,v_kifS1,v_kifS0,v_put_dat,v_put_fr,v_put_slot,v_kput,v_tgN,v_tgNil,v_tgCons,v_ktg,v_tgT,v_runF,v_endF_rt,v_endF_nx,v_endF_er,v_runB,v_endB_rt,v_endB_nx,v_add,v_sub,v_mod,v_neg,v_lt,v_cmp,v_eq,v_ne,v_len_l,v_len_t,v_len_r,v_ixt,v_ixl,v_ixr,v_eq_bb,v_ne_bb,v_subE_i,List.map_cons,List.map_nil,List.length_cons,List.length_nil,List.cons_append,List.nil_append,List.replicate_succ,List.replicate_zero,List.getElem?_cons_zero,List.getElem?_cons_succ,List.set_cons_zero,List.set_cons_succ,Option.map_some,Nat.reduceSub,Nat.reduceAdd,Nat.reduceLT,Nat.reduceLeDiff,bigN, C_check_points_0, hw]
  unfold F_check_points M_check_points
  cases h : ds.all isPt
  · simp only [v_bok,v_berr,v_sok,v_serr,v_nx,v_rt,v_bk,v_ct,v_er,v_ofs,v_var,v_slot_dat,v_slot_own,v_c,v_bin,v_kbin,v_op2,v_pk2,v_un,v_op1,v_pk1,v_peek_dat,v_peek_fr,v_peek_slot,v_pslot_own,v_pslot_dat,v_cnl,v_test,v_ktest,v_notT,v_knotT,v_nil,v_cons,v_kcons,v_kcons2,v_fast,v_kfast,v_all0,v_all1,v_kall,v_kall2,v_force_dat,v_force_fr,v_force_slot,v_fslot_own,v_fslot_dat,v_call,v_callF,v_at_ok,v_at_err,v_vB,v_atB,v_vM2,v_vM3,v_cb,v_kcb,v_pkL,v_peeks0,v_peeks1,v_cons22,v_iter,v_it_l,v_it_r,v_it_t,v_lc,v_klc,v_klc2,v_yes,v_skip,v_raise,v_ret_dat,v_ret_fr,v_ret_slot,v_rslot_own,v_rslot_dat,v_retN,v_ifS,v_kifS1,v_kifS0,v_put_dat,v_put_fr,v_put_slot,v_kput,v_tgN,v_tgNil,v_tgCons,v_ktg,v_tgT,v_runF,v_endF_rt,v_endF_nx,v_endF_er,v_runB,v_endB_rt,v_endB_nx,v_add,v_sub,v_mod,v_neg,v_lt,v_cmp,v_eq,v_ne,v_len_l,v_len_t,v_len_r,v_ixt,v_ixl,v_ixr,v_eq_bb,v_ne_bb,v_subE_i,List.map_cons,List.map_nil,List.length_cons,List.length_nil,List.cons_append,List.nil_append,List.replicate_succ,List.replicate_zero,List.getElem?_cons_zero,List.getElem?_cons_succ,List.set_cons_zero,List.set_cons_succ,Option.map_some,Nat.reduceSub,Nat.reduceAdd,Nat.reduceLT,Nat.reduceLeDiff,bigN, nn_check_points, r, allD_bl, h, Bool.not_false]
    rfl
  · simp only [v_bok,v_berr,v_sok,v_serr,v_nx,v_rt,v_bk,v_ct,v_er,v_ofs,v_var,v_slot_dat,v_slot_own,v_c,v_bin,v_kbin,v_op2,v_pk2,v_un,v_op1,v_pk1,v_peek_dat,v_peek_fr,v_peek_slot,v_pslot_own,v_pslot_dat,v_cnl,v_test,v_ktest,v_notT,v_knotT,v_nil,v_cons,v_kcons,v_kcons2,v_fast,v_kfast,v_all0,v_all1,v_kall,v_kall2,v_force_dat,v_force_fr,v_force_slot,v_fslot_own,v_fslot_dat,v_call,v_callF,v_at_ok,v_at_err,v_vB,v_atB,v_vM2,v_vM3,v_cb,v_kcb,v_pkL,v_peeks0,v_peeks1,v_cons22,v_iter,v_it_l,v_it_r,v_it_t,v_lc,v_klc,v_klc2,v_yes,v_skip,v_raise,v_ret_dat,v_ret_fr,v_ret_slot,v_rslot_own,v_rslot_dat,v_retN,v_ifS,v_kifS1,v_kifS0,v_put_dat,v_put_fr,v_put_slot,v_kput,v_tgN,v_tgNil,v_tgCons,v_ktg,v_tgT,v_runF,v_endF_rt,v_endF_nx,v_endF_er,v_runB,v_endB_rt,v_endB_nx,v_add,v_sub,v_mod,v_neg,v_lt,v_cmp,v_eq,v_ne,v_len_l,v_len_t,v_len_r,v_ixt,v_ixl,v_ixr,v_eq_bb,v_ne_bb,v_subE_i,List.map_cons,List.map_nil,List.length_cons,List.length_nil,List.cons_append,List.nil_append,List.replicate_succ,List.replicate_zero,List.getElem?_cons_zero,List.getElem?_cons_succ,List.set_cons_zero,List.set_cons_succ,Option.map_some,Nat.reduceSub,Nat.reduceAdd,Nat.reduceLT,Nat.reduceLeDiff,bigN, nn_check_points, r, allD_bl, h, Bool.not_true]
    rfl
theorem e_is_stretch_no {d : D} (h : d = .non ∨ ∃ l, d = .lst l) : F_is_stretch [d] = .ok (.dat (.bl false)) := by
  unfold F_is_stretch M_is_stretch
  rcases h with rfl | ⟨l, rfl⟩ <;> simp only [v_bok,v_berr,v_sok,v_serr,v_nx,v_rt,v_bk,v_ct,v_er,v_ofs,v_var,v_slot_dat,v_slot_own,v_c,v_bin,v_kbin,v_op2,v_pk2,v_un,v_op1,v_pk1,v_peek_dat,v_peek_fr,v_peek_slot,v_pslot_own,v_pslot_dat,v_cnl,v_test,v_ktest,v_orT,v_kor1,v_kor0,v_notT,v_knotT,v_nil,v_cons,v_kcons,v_kcons2,v_all0,v_all1,v_kall,v_kall2,v_force_dat,v_force_fr,v_force_slot,v_fslot_own,v_fslot_dat,v_at_ok,v_at_err,v_vB,v_atB,v_vM2,v_vM3,v_cb,v_kcb,v_pkL,v_peeks0,v_peeks1,v_cons22,v_isi,v_iter,v_it_l,v_it_r,v_it_t,v_lc,v_klc,v_klc2,v_yes,v_seq,v_skip,v_ret,v_ret_dat,v_ret_fr,v_ret_slot,v_rslot_own,v_rslot_dat,v_retN,v_ifS,v_kifS1,v_kifS0,v_put_dat,v_put_fr,v_put_slot,v_kput,v_tgN,v_tgNil,v_tgCons,v_ktg,v_tgT,v_runF,v_endF_rt,v_endF_nx,v_endF_er,v_runB,v_endB_rt,v_endB_nx,v_add,v_sub,v_mod,v_neg,v_lt,v_cmp,v_eq,v_ne,v_len_l,v_len_t,v_len_r,v_ixt,v_ixl,v_ixr,v_kb_NoneType_bool,v_kb_NoneType_int,v_kb_NoneType_str,v_kb_NoneType_tuple,v_kb_NoneType_list,v_kb_NoneType_dict,v_kb_bool_bool,v_kb_bool_int,v_kb_bool_str,v_kb_bool_tuple,v_kb_bool_list,v_kb_bool_dict,v_kb_int_bool,v_kb_int_int,v_kb_int_str,v_kb_int_tuple,v_kb_int_list,v_kb_int_dict,v_kb_str_bool,v_kb_str_int,v_kb_str_str,v_kb_str_tuple,v_kb_str_list,v_kb_str_dict,v_kb_tuple_bool,v_kb_tuple_int,v_kb_tuple_str,v_kb_tuple_tuple,v_kb_tuple_list,v_kb_tuple_dict,v_kb_list_bool,v_kb_list_int,v_kb_list_str,v_kb_list_tuple,v_kb_list_list,v_kb_list_dict,v_kb_dict_bool,v_kb_dict_int,v_kb_dict_str,v_kb_dict_tuple,v_kb_dict_list,v_kb_dict_dict,v_isi_non,v_isi_bl,v_isi_int,v_isi_str,v_isi_tup,v_isi_lst,v_isi_dct,v_eq_bb,v_ne_bb,v_subE_i,List.map_cons,List.map_nil,List.length_cons,List.length_nil,List.cons_append,List.nil_append,List.replicate_succ,List.replicate_zero,List.getElem?_cons_zero,List.getElem?_cons_succ,List.set_cons_zero,List.set_cons_succ,Option.map_some,Nat.reduceSub,Nat.reduceAdd,Nat.reduceLT,Nat.reduceLeDiff,bigN, nn_is_stretch] <;> rfl
theorem ist_comp {es : List D} (hp : ∀ d ∈ es, pv d = true) (hl : es.length ≤ 1000) : compL [1] (tgN 1) mYes C_is_stretch_0 es [] [.dat (.tup es), .emp] = .ok (es.map fun d => .bl (isPt d)) [.dat (.tup es), .emp] := by
  refine comp_all (fun d => .bl (isPt d)) (fun x hx => ?_) (by show _ ≤ 1000000; omega)
  have hw := e_is_point (hp x hx)
  refine ⟨[.dat (.tup es), .dat x], [.dat (.tup es), .dat x], .dat (.bl (isPt x)), [.dat (.tup es), .dat x], [.dat (.tup es), .dat x], rfl, rfl, ?_, rfl, rfl⟩
  simp only [v_bok,v_berr,v_sok,v_serr,v_nx,v_rt,v_bk,v_ct,v_er,v_ofs,v_var,v_slot_dat,v_slot_own,v_c,v_bin,v_kbin,v_op2,v_pk2,v_un,v_op1,v_pk1,v_peek_dat,v_peek_fr,v_peek_slot,v_pslot_own,v_pslot_dat,v_cnl,v_test,v_ktest,v_nil,v_cons,v_kcons,v_kcons2,v_fast,v_kfast,v_all0,v_all1,v_kall,v_kall2,v_force_dat,v_force_fr,v_force_slot,v_fslot_own,v_fslot_dat,v_call,v_callF,v_at_ok,v_at_err,v_vB,v_atB,v_vM2,v_vM3,v_pkL,v_peeks0,v_peeks1,v_cons22,v_it_l,v_it_r,v_it_t,v_yes,v_ret_dat,v_ret_fr,v_ret_slot,v_rslot_own,v_rslot_dat,v_retN,v_put_dat,v_put_fr,v_put_slot,v_kput,v_tgN,v_tgNil,v_tgCons,v_ktg,v_tgT,v_runF,v_endF_rt,v_endF_nx,v_endF_er,v_runB,v_endB_rt,v_endB_nx,v_add,v_sub,v_mod,v_neg,v_lt,v_cmp,v_eq,v_ne,v_len_l,v_len_t,v_len_r,v_ixt,v_ixl,v_ixr,v_eq_bb,v_ne_bb,v_subE_i,List.map_cons,List.map_nil,List.length_cons,List.length_nil,List.cons_append,List.nil_append,List.replicate_succ,List.replicate_zero,List.getElem?_cons_zero,List.getElem?_cons_succ,List.set_cons_zero,List.set_cons_succ,Option.map_some,Nat.reduceSub,Nat.reduceAdd,Nat.reduceLT,Nat.reduceLeDiff,bigN, C_is_stretch_0, hw]
theorem len2 {es : List D} : ((es.length : Int) == 2) = (es.length == 2) := by
  by_cases q : es.length = 2
  · rw [q]; rfl
  · rw [beq_eq_false_iff_ne.mpr q, beq_eq_false_iff_ne.mpr (by omega)]
theorem e_is_stretch_bad {es : List D} (hp : ∀ d ∈ es, pv d = true) (hl : es.length ≤ 1000) (h : (es.length == 2 && es.all isPt) = false) : F_is_stretch [.tup es] = .ok (.dat (.bl false)) := by
  have r := ist_comp hp hl
  have e := len2 (es := es)
  unfold F_is_stretch M_is_stretch
  cases h0 : (es.length == 2)
  · rw [h0] at e
    simp only [v_bok,v_berr,v_sok,v_serr,v_nx,v_rt,v_bk,v_ct,v_er,v_ofs,v_var,v_slot_dat,v_slot_own,v_c,v_bin,v_kbin,v_op2,v_pk2,v_un,v_op1,v_pk1,v_peek_dat,v_peek_fr,v_peek_slot,v_pslot_own,v_pslot_dat,v_cnl,v_test,v_ktest,v_orT,v_kor1,v_kor0,v_notT,v_knotT,v_nil,v_cons,v_kcons,v_kcons2,v_all0,v_all1,v_kall,v_kall2,v_force_dat,v_force_fr,v_force_slot,v_fslot_own,v_fslot_dat,v_at_ok,v_at_err,v_vB,v_atB,v_vM2,v_vM3,v_cb,v_kcb,v_pkL,v_peeks0,v_peeks1,v_cons22,v_isi,v_iter,v_it_l,v_it_r,v_it_t,v_lc,v_klc,v_klc2,v_yes,v_seq,v_skip,v_ret,v_ret_dat,v_ret_fr,v_ret_slot,v_rslot_own,v_rslot_dat,v_retN,v_ifS,v_kifS1,v_kifS0,v_put_dat,v_put_fr,v_put_slot,v_kput,v_tgN,v_tgNil,v_tgCons,v_ktg,v_tgT,v_runF,v_endF_rt,v_endF_nx,v_endF_er,v_runB,v_endB_rt,v_endB_nx,v_add,v_sub,v_mod,v_neg,v_lt,v_cmp,v_eq,v_ne,v_len_l,v_len_t,v_len_r,v_ixt,v_ixl,v_ixr,v_kb_NoneType_bool,v_kb_NoneType_int,v_kb_NoneType_str,v_kb_NoneType_tuple,v_kb_NoneType_list,v_kb_NoneType_dict,v_kb_bool_bool,v_kb_bool_int,v_kb_bool_str,v_kb_bool_tuple,v_kb_bool_list,v_kb_bool_dict,v_kb_int_bool,v_kb_int_int,v_kb_int_str,v_kb_int_tuple,v_kb_int_list,v_kb_int_dict,v_kb_str_bool,v_kb_str_int,v_kb_str_str,v_kb_str_tuple,v_kb_str_list,v_kb_str_dict,v_kb_tuple_bool,v_kb_tuple_int,v_kb_tuple_str,v_kb_tuple_tuple,v_kb_tuple_list,v_kb_tuple_dict,v_kb_list_bool,v_kb_list_int,v_kb_list_str,v_kb_list_tuple,v_kb_list_list,v_kb_list_dict,v_kb_dict_bool,v_kb_dict_int,v_kb_dict_str,v_kb_dict_tuple,v_kb_dict_list,v_kb_dict_dict,v_isi_non,v_isi_bl,v_isi_int,v_isi_str,v_isi_tup,v_isi_lst,v_isi_dct,v_eq_bb,v_ne_bb,v_subE_i,List.map_cons,List.map_nil,List.length_cons,List.length_nil,List.cons_append,List.nil_append,List.replicate_succ,List.replicate_zero,List.getElem?_cons_zero,List.getElem?_cons_succ,List.set_cons_zero,List.set_cons_succ,Option.map_some,Nat.reduceSub,Nat.reduceAdd,Nat.reduceLT,Nat.reduceLeDiff,bigN, nn_is_stretch, e, Bool.not_true, Bool.not_false]
  · rw [h0] at e h
    rw [Bool.true_and] at h
    simp only [v_bok,v_berr,v_sok,v_serr,v_nx,v_rt,v_bk,v_ct,v_er,v_ofs,v_var,v_slot_dat,v_slot_own,v_c,v_bin,v_kbin,v_op2,v_pk2,v_un,v_op1,v_pk1,v_peek_dat,v_peek_fr,v_peek_slot,v_pslot_own,v_pslot_dat,v_cnl,v_test,v_ktest,v_orT,v_kor1,v_kor0,v_notT,v_knotT,v_nil,v_cons,v_kcons,v_kcons2,v_all0,v_all1,v_kall,v_kall2,v_force_dat,v_force_fr,v_force_slot,v_fslot_own,v_fslot_dat,v_at_ok,v_at_err,v_vB,v_atB,v_vM2,v_vM3,v_cb,v_kcb,v_pkL,v_peeks0,v_peeks1,v_cons22,v_isi,v_iter,v_it_l,v_it_r,v_it_t,v_lc,v_klc,v_klc2,v_yes,v_seq,v_skip,v_ret,v_ret_dat,v_ret_fr,v_ret_slot,v_rslot_own,v_rslot_dat,v_retN,v_ifS,v_kifS1,v_kifS0,v_put_dat,v_put_fr,v_put_slot,v_kput,v_tgN,v_tgNil,v_tgCons,v_ktg,v_tgT,v_runF,v_endF_rt,v_endF_nx,v_endF_er,v_runB,v_endB_rt,v_endB_nx,v_add,v_sub,v_mod,v_neg,v_lt,v_cmp,v_eq,v_ne,v_len_l,v_len_t,v_len_r,v_ixt,v_ixl,v_ixr,v_kb_NoneType_bool,v_kb_NoneType_int,v_kb_NoneType_str,v_kb_NoneType_tuple,v_kb_NoneType_list,v_kb_NoneType_dict,v_kb_bool_bool,v_kb_bool_int,v_kb_bool_str,v_kb_bool_tuple,v_kb_bool_list,v_kb_bool_dict,v_kb_int_bool,v_kb_int_int,v_kb_int_str,v_kb_int_tuple,v_kb_int_list,v_kb_int_dict,v_kb_str_bool,v_kb_str_int,v_kb_str_str,v_kb_str_tuple,v_kb_str_list,v_kb_str_dict,v_kb_tuple_bool,v_kb_tuple_int,v_kb_tuple_str,v_kb_tuple_tuple,v_kb_tuple_list,v_kb_tuple_dict,v_kb_list_bool,v_kb_list_int,v_kb_list_str,v_kb_list_tuple,v_kb_list_list,v_kb_list_dict,v_kb_dict_bool,v_kb_dict_int,v_kb_dict_str,v_kb_dict_tuple,v_kb_dict_list,v_kb_dict_dict,v_isi_non,v_isi_bl,v_isi_int,v_isi_str,v_isi_tup,v_isi_lst,v_isi_dct,v_eq_bb,v_ne_bb,v_subE_i,List.map_cons,List.map_nil,List.length_cons,List.length_nil,List.cons_append,List.nil_append,List.replicate_succ,List.replicate_zero,List.getElem?_cons_zero,List.getElem?_cons_succ,List.set_cons_zero,List.set_cons_succ,Option.map_some,Nat.reduceSub,Nat.reduceAdd,Nat.reduceLT,Nat.reduceLeDiff,bigN, nn_is_stretch, e, Bool.not_true, Bool.not_false, r, allD_bl, h]
theorem e_is_stretch {a b : Pt} (ha : Sm a) (hb : Sm b) : F_is_stretch [ed (a, b)] = .ok (.dat (.bl (!decide (a = b)))) := by
  have r := ist_comp (es := [pt a, pt b]) (fun d hd => by
    simp only [List.mem_cons, List.not_mem_nil, or_false] at hd
    rcases hd with rfl | rfl <;> rfl) (show 2 ≤ 1000 by decide)
  have h2 : ([pt a, pt b] : List D).all isPt = true := by simp [isPt_of ha, isPt_of hb]
  have e : (((2 : Nat) : Int) == 2) = true := rfl
  have hne := ne_pt (a := a) (b := b)
  rw [List.map_cons, List.map_cons, List.map_nil, isPt_of ha, isPt_of hb] at r
  have ha2 : allD [.lst [.bl true, .bl true]] = some (.dat (.bl true)) := rfl
  unfold F_is_stretch M_is_stretch ed
  simp only [v_bok,v_berr,v_sok,v_serr,v_nx,v_rt,v_bk,v_ct,v_er,v_ofs,v_var,v_slot_dat,v_slot_own,v_c,v_bin,v_kbin,v_op2,v_pk2,v_un,v_op1,v_pk1,v_peek_dat,v_peek_fr,v_peek_slot,v_pslot_own,v_pslot_dat,v_cnl,v_test,v_ktest,v_orT,v_kor1,v_kor0,v_notT,v_knotT,v_nil,v_cons,v_kcons,v_kcons2,v_all0,v_all1,v_kall,v_kall2,v_force_dat,v_force_fr,v_force_slot,v_fslot_own,v_fslot_dat,v_at_ok,v_at_err,v_vB,v_atB,v_vM2,v_vM3,v_cb,v_kcb,v_pkL,v_peeks0,v_peeks1,v_cons22,v_isi,v_iter,v_it_l,v_it_r,v_it_t,v_lc,v_klc,v_klc2,v_yes,v_seq,v_skip,v_ret,v_ret_dat,v_ret_fr,v_ret_slot,v_rslot_own,v_rslot_dat,v_retN,v_ifS,v_kifS1,v_kifS0,v_put_dat,v_put_fr,v_put_slot,v_kput,v_tgN,v_tgNil,v_tgCons,v_ktg,v_tgT,v_runF,v_endF_rt,v_endF_nx,v_endF_er,v_runB,v_endB_rt,v_endB_nx,v_add,v_sub,v_mod,v_neg,v_lt,v_cmp,v_eq,v_ne,v_len_l,v_len_t,v_len_r,v_ixt,v_ixl,v_ixr,v_kb_NoneType_bool,v_kb_NoneType_int,v_kb_NoneType_str,v_kb_NoneType_tuple,v_kb_NoneType_list,v_kb_NoneType_dict,v_kb_bool_bool,v_kb_bool_int,v_kb_bool_str,v_kb_bool_tuple,v_kb_bool_list,v_kb_bool_dict,v_kb_int_bool,v_kb_int_int,v_kb_int_str,v_kb_int_tuple,v_kb_int_list,v_kb_int_dict,v_kb_str_bool,v_kb_str_int,v_kb_str_str,v_kb_str_tuple,v_kb_str_list,v_kb_str_dict,v_kb_tuple_bool,v_kb_tuple_int,v_kb_tuple_str,v_kb_tuple_tuple,v_kb_tuple_list,v_kb_tuple_dict,v_kb_list_bool,v_kb_list_int,v_kb_list_str,v_kb_list_tuple,v_kb_list_list,v_kb_list_dict,v_kb_dict_bool,v_kb_dict_int,v_kb_dict_str,v_kb_dict_tuple,v_kb_dict_list,v_kb_dict_dict,v_isi_non,v_isi_bl,v_isi_int,v_isi_str,v_isi_tup,v_isi_lst,v_isi_dct,v_eq_bb,v_ne_bb,v_subE_i,List.map_cons,List.map_nil,List.length_cons,List.length_nil,List.cons_append,List.nil_append,List.replicate_succ,List.replicate_zero,List.getElem?_cons_zero,List.getElem?_cons_succ,List.set_cons_zero,List.set_cons_succ,Option.map_some,Nat.reduceSub,Nat.reduceAdd,Nat.reduceLT,Nat.reduceLeDiff,bigN, nn_is_stretch, e, Bool.not_true, Bool.not_false, r, ha2, at0, at1, hne]
noncomputable def bst (d : D) : Bool := match F_is_stretch [d] with
  | .ok (.dat (.bl b)) => b
  | _ => false
theorem bst_of {d : D} {b : Bool} (h : F_is_stretch [d] = .ok (.dat (.bl b))) : bst d = b := by
  unfold bst; rw [h]
theorem e_check_stretches {ds : List D} (hp : ∀ d ∈ ds, F_is_stretch [d] = .ok (.dat (.bl (bst d)))) (hl : ds.length ≤ 1000) : F_check_stretches [.lst ds] = cond (ds.all bst) (.ok (.dat .non)) (.err 2) := by
  have r : compL [1] (tgN 1) mYes C_check_stretches_0 ds [] [.dat (.lst ds), .emp] = .ok (ds.map fun d => .bl (bst d)) [.dat (.lst ds), .emp] := by
    refine comp_all (fun d => .bl (bst d)) (fun x hx => ?_) (by show _ ≤ 1000000; omega)
    have hw := hp x hx
    refine ⟨[.dat (.lst ds), .dat x], [.dat (.lst ds), .dat x], .dat (.bl (bst x)), [.dat (.lst ds), .dat x], [.dat (.lst ds), .dat x], rfl, rfl, ?_, rfl, rfl⟩
    simp only [v_bok,v_berr,v_sok,v_serr,v_nx,v_rt,v_bk,v_ct,v_er,v_ofs,v_var,v_slot_dat,v_slot_own,v_c,v_bin,v_kbin,v_op2,v_pk2,v_un,v_op1,v_pk1,v_peek_dat,v_peek_fr,v_peek_slot,v_pslot_own,v_pslot_dat,v_cnl,v_test,v_ktest,v_notT,v_knotT,v_nil,v_cons,v_kcons,v_kcons2,v_fast,v_kfast,v_all0,v_all1,v_kall,v_kall2,v_force_dat,v_force_fr,v_force_slot,v_fslot_own,v_fslot_dat,v_call,v_callF,v_at_ok,v_at_err,v_vB,v_atB,v_vM2,v_vM3,v_cb,v_kcb,v_pkL,v_peeks0,v_peeks1,v_cons22,v_iter,v_it_l,v_it_r,v_it_t,v_lc,v_klc,v_klc2,v_yes,v_skip,v_raise,v_ret_dat,v_ret_fr,v_ret_slot,v_rslot_own,v_rslot_dat,v_retN,v_ifS,v_kifS1,v_kifS0,v_put_dat,v_put_fr,v_put_slot,v_kput,v_tgN,v_tgNil,v_tgCons,v_ktg,v_tgT,v_runF,v_endF_rt,v_endF_nx,v_endF_er,v_runB,v_endB_rt,v_endB_nx,v_add,v_sub,v_mod,v_neg,v_lt,v_cmp,v_eq,v_ne,v_len_l,v_len_t,v_len_r,v_ixt,v_ixl,v_ixr,v_eq_bb,v_ne_bb,v_subE_i,List.map_cons,List.map_nil,List.length_cons,List.length_nil,List.cons_append,List.nil_append,List.replicate_succ,List.replicate_zero,List.getElem?_cons_zero,List.getElem?_cons_succ,List.set_cons_zero,List.set_cons_succ,Option.map_some,Nat.reduceSub,Nat.reduceAdd,Nat.reduceLT,Nat.reduceLeDiff,bigN, C_check_stretches_0, hw]
  unfold F_check_stretches M_check_stretches
  cases h : ds.all bst
  · simp only [v_bok,v_berr,v_sok,v_serr,v_nx,v_rt,v_bk,v_ct,v_er,v_ofs,v_var,v_slot_dat,v_slot_own,v_c,v_bin,v_kbin,v_op2,v_pk2,v_un,v_op1,v_pk1,v_peek_dat,v_peek_fr,v_peek_slot,v_pslot_own,v_pslot_dat,v_cnl,v_test,v_ktest,v_notT,v_knotT,v_nil,v_cons,v_kcons,v_kcons2,v_fast,v_kfast,v_all0,v_all1,v_kall,v_kall2,v_force_dat,v_force_fr,v_force_slot,v_fslot_own,v_fslot_dat,v_call,v_callF,v_at_ok,v_at_err,v_vB,v_atB,v_vM2,v_vM3,v_cb,v_kcb,v_pkL,v_peeks0,v_peeks1,v_cons22,v_iter,v_it_l,v_it_r,v_it_t,v_lc,v_klc,v_klc2,v_yes,v_skip,v_raise,v_ret_dat,v_ret_fr,v_ret_slot,v_rslot_own,v_rslot_dat,v_retN,v_ifS,v_kifS1,v_kifS0,v_put_dat,v_put_fr,v_put_slot,v_kput,v_tgN,v_tgNil,v_tgCons,v_ktg,v_tgT,v_runF,v_endF_rt,v_endF_nx,v_endF_er,v_runB,v_endB_rt,v_endB_nx,v_add,v_sub,v_mod,v_neg,v_lt,v_cmp,v_eq,v_ne,v_len_l,v_len_t,v_len_r,v_ixt,v_ixl,v_ixr,v_eq_bb,v_ne_bb,v_subE_i,List.map_cons,List.map_nil,List.length_cons,List.length_nil,List.cons_append,List.nil_append,List.replicate_succ,List.replicate_zero,List.getElem?_cons_zero,List.getElem?_cons_succ,List.set_cons_zero,List.set_cons_succ,Option.map_some,Nat.reduceSub,Nat.reduceAdd,Nat.reduceLT,Nat.reduceLeDiff,bigN, nn_check_stretches, r, allD_bl, h, Bool.not_false]
    rfl
  · simp only [v_bok,v_berr,v_sok,v_serr,v_nx,v_rt,v_bk,v_ct,v_er,v_ofs,v_var,v_slot_dat,v_slot_own,v_c,v_bin,v_kbin,v_op2,v_pk2,v_un,v_op1,v_pk1,v_peek_dat,v_peek_fr,v_peek_slot,v_pslot_own,v_pslot_dat,v_cnl,v_test,v_ktest,v_notT,v_knotT,v_nil,v_cons,v_kcons,v_kcons2,v_fast,v_kfast,v_all0,v_all1,v_kall,v_kall2,v_force_dat,v_force_fr,v_force_slot,v_fslot_own,v_fslot_dat,v_call,v_callF,v_at_ok,v_at_err,v_vB,v_atB,v_vM2,v_vM3,v_cb,v_kcb,v_pkL,v_peeks0,v_peeks1,v_cons22,v_iter,v_it_l,v_it_r,v_it_t,v_lc,v_klc,v_klc2,v_yes,v_skip,v_raise,v_ret_dat,v_ret_fr,v_ret_slot,v_rslot_own,v_rslot_dat,v_retN,v_ifS,v_kifS1,v_kifS0,v_put_dat,v_put_fr,v_put_slot,v_kput,v_tgN,v_tgNil,v_tgCons,v_ktg,v_tgT,v_runF,v_endF_rt,v_endF_nx,v_endF_er,v_runB,v_endB_rt,v_endB_nx,v_add,v_sub,v_mod,v_neg,v_lt,v_cmp,v_eq,v_ne,v_len_l,v_len_t,v_len_r,v_ixt,v_ixl,v_ixr,v_eq_bb,v_ne_bb,v_subE_i,List.map_cons,List.map_nil,List.length_cons,List.length_nil,List.cons_append,List.nil_append,List.replicate_succ,List.replicate_zero,List.getElem?_cons_zero,List.getElem?_cons_succ,List.set_cons_zero,List.set_cons_succ,Option.map_some,Nat.reduceSub,Nat.reduceAdd,Nat.reduceLT,Nat.reduceLeDiff,bigN, nn_check_stretches, r, allD_bl, h, Bool.not_true]
    rfl
theorem e_cs2 {d d2 : D} {b b2 : Bool} (h : F_is_stretch [d] = .ok (.dat (.bl b))) (h2 : F_is_stretch [d2] = .ok (.dat (.bl b2))) : F_check_stretches [.lst [d, d2]] = cond (b && b2) (.ok (.dat .non)) (.err 2) := by
  have e := bst_of h
  have e2 := bst_of h2
  have := e_check_stretches (ds := [d, d2]) (fun x hx => by
    simp only [List.mem_cons, List.not_mem_nil, or_false] at hx
    rcases hx with rfl | rfl
    · rw [e]; exact h
    · rw [e2]; exact h2) (show 2 ≤ 1000 by decide)
  rw [this]
  simp [e, e2]
structure Str2 (a b : Pt) : Prop where
  sa : Sm a
  sb : Sm b
  ne : a ≠ b
theorem e_st {a b : Pt} (h : Str2 a b) : F_is_stretch [ed (a, b)] = .ok (.dat (.bl true)) := by
  rw [e_is_stretch h.sa h.sb, decide_eq_false h.ne]; rfl
theorem pvs {ds : List D} (h : ∀ d ∈ ds, isPt d = true) : ∀ d ∈ ds, pv d = true := fun d hd => by
  obtain ⟨a, rfl, _⟩ := isPt_pt (h d hd)
  rfl
theorem cp_ok {ds : List D} (h : ds.all isPt = true) (hl : ds.length ≤ 1000) : F_check_points [.lst ds] = .ok (.dat .non) := by
  rw [e_check_points (pvs fun d hd => List.all_eq_true.mp h d hd) hl, h]; rfl
def dist (a b : Pt) : Int := (a.1 - b.1) * (a.1 - b.1) + (a.2 - b.2) * (a.2 - b.2)
theorem pow2 {i : Int} (h : -4000 ≤ i ∧ i ≤ 4000) : powD (.int i) (.int 2) = some (.dat (.int (i ^ 2))) := if_pos ⟨by decide, by decide, by omega⟩
end Lw
set_option maxHeartbeats 1000000
namespace Lw
open PySem DL
def row (a : Pt) : List Int := [a.1, a.2]
def unrow : List Int → Pt
  | [x, y] => (x, y)
  | _ => (0, 0)
def sortP (P : List Pt) : List Pt := (ssL (P.map row)).map unrow
theorem ss_rows {P : List Pt} {z : List Int} (h : z ∈ ssL (P.map row)) : ∃ a ∈ P, z = row a := by
  obtain ⟨a, ha, e⟩ := List.mem_map.mp (ss_mem.mp h)
  exact ⟨a, ha, e.symm⟩
theorem sortP_row (P : List Pt) : (sortP P).map row = ssL (P.map row) := by
  unfold sortP
  rw [List.map_map]
  conv => rhs; rw [← List.map_id (ssL (P.map row))]
  apply List.map_congr_left
  intro z hz
  obtain ⟨a, _, rfl⟩ := ss_rows hz
  rfl
theorem sortP_mem {P : List Pt} {a : Pt} : a ∈ sortP P ↔ a ∈ P := by
  constructor
  · intro h
    obtain ⟨z, hz, rfl⟩ := List.mem_map.mp h
    obtain ⟨b, hb, rfl⟩ := ss_rows hz
    exact hb
  · intro h
    exact List.mem_map.mpr ⟨row a, ss_mem.mpr (List.mem_map.mpr ⟨a, h, rfl⟩), rfl⟩
theorem ins_len {x : List Int} : ∀ {r : List (List Int)}, (ins x r).length ≤ r.length + 1
  | [] => by simp [ins]
  | y :: r => by
    unfold ins
    split
    · simp
    · split
      · simp
      · have := ins_len (x := x) (r := r)
        simp
        omega
theorem ss_len : ∀ xs : List (List Int), (ssL xs).length ≤ xs.length
  | [] => Nat.le_refl _
  | x :: xs => by
    have h1 := ins_len (x := x) (r := ssL xs)
    have h2 := ss_len xs
    show (ins x (ssL xs)).length ≤ xs.length + 1
    omega
theorem sortP_len (P : List Pt) : (sortP P).length ≤ P.length := by
  unfold sortP
  rw [List.length_map]
  have := ss_len (P.map row)
  rwa [List.length_map] at this
theorem tupIs_wk : ∀ P : List Pt, tupIs (wk P) = some (P.map row)
  | [] => rfl
  | a :: P => by
    show (tupI (pt a)).bind (fun n => (tupIs (wk P)).map (n :: ·)) = _
    rw [tupIs_wk P]
    rfl
theorem ssE_wk {P : List Pt} (h : P.length < 64) : ssE (wk P) = some (.fr (.lst (wk (sortP P)))) := by
  unfold ssE
  rw [if_pos (by unfold wk; rw [List.length_map]; exact h), tupIs_wk]
  show (if ((P.map row).all fun x => !x.isEmpty) = true then _ else _) = _
  rw [if_pos (by rw [List.all_eq_true]; intro x hx; obtain ⟨a, _, rfl⟩ := List.mem_map.mp hx; rfl)]
  congr 3
  unfold wk
  rw [← sortP_row, List.map_map]
  rfl
theorem sortP_srt (P : List Pt) : ((sortP P).map row).Pairwise (· < ·) := by rw [sortP_row]; exact ss_srt _
theorem lex_iff : ∀ x y : List Int, HT.lexLt x y = true ↔ x < y
  | [], [] => by simp [HT.lexLt]
  | [], _ :: _ => by simp [HT.lexLt]
  | _ :: _, [] => by simp [HT.lexLt]
  | a :: x, b :: y => by
    unfold HT.lexLt
    rw [List.cons_lt_cons_iff]
    by_cases h : a = b
    · subst h
      rw [if_pos rfl, lex_iff x y]
      constructor
      · intro q; exact .inr ⟨rfl, q⟩
      · intro q
        rcases q with q | q
        · exact absurd q (Int.lt_irrefl a)
        · exact q.2
    · rw [if_neg h, decide_eq_true_eq]
      constructor
      · intro q; exact .inl q
      · intro q
        rcases q with q | q
        · exact q
        · exact absurd q.1 h
def ltP (a b : Pt) : Bool := HT.lexLt (row a) (row b)
theorem lt_pt {a b : Pt} : ltD (pt a) (pt b) = some (.dat (.bl (ltP a b))) := rfl
def asc (l : List Pt) : Bool := (l.zip (l.drop 1)).all fun e => ltP e.1 e.2
theorem asc_srt : ∀ l : List Pt, asc l = true ↔ (l.map row).Pairwise (· < ·)
  | [] => by simp [asc]
  | [a] => by simp [asc]
  | a :: b :: l => by
    have ih := asc_srt (b :: l)
    have e : asc (a :: b :: l) = (ltP a b && asc (b :: l)) := rfl
    rw [e, Bool.and_eq_true_iff, ih, List.map_cons (f := row) (a := a), List.pairwise_cons]
    constructor
    · intro ⟨h1, h2⟩
      refine ⟨fun z hz => ?_, h2⟩
      have h3 : row a < row b := (lex_iff _ _).mp h1
      rw [List.map_cons] at hz h2
      rcases List.mem_cons.mp hz with rfl | hz
      · exact h3
      · exact li_tr h3 ((List.pairwise_cons.mp h2).1 z hz)
    · intro ⟨h1, h2⟩
      exact ⟨(lex_iff _ _).mpr (h1 (row b) (by simp)), h2⟩
theorem e_are_asc {l : List Pt} (hl : l.length ≤ 1000) : F_are_ascending [.tup (wk l)] = .ok (.dat (.bl (asc l))) := by
  have c1 : cutD (wk l) (some 1) none = (wk l).drop 1 := cut_from (by decide)
  have ez : ((wk l).zip ((wk l).drop 1)).map (fun p => D.tup [p.1, p.2]) = (l.zip (l.drop 1)).map ed := by
    unfold wk
    rw [← List.map_drop, List.zip_map, List.map_map]
    rfl
  have r := comp_all (vs := [1, 2]) (mt := tgT 2 (tgCons (tgN 1) (tgCons (tgN 2) tgNil))) (mc := mYes) (me := C_are_ascending_0) (τ := [.dat (.tup (wk l)), .emp, .emp]) (fun d => match d with
    | .tup [a, b] => match ltD a b with
      | some (.dat d) => d
      | _ => .non
    | _ => .non) (xs := (l.zip (l.drop 1)).map ed) (fun x hx => by
    obtain ⟨e, he, rfl⟩ := List.mem_map.mp hx
    refine ⟨[.dat (.tup (wk l)), .dat (pt e.1), .dat (pt e.2)], [.dat (.tup (wk l)), .dat (pt e.1), .dat (pt e.2)], .dat (.bl (ltP e.1 e.2)), [.dat (.tup (wk l)), .dat (pt e.1), .dat (pt e.2)], [.dat (.tup (wk l)), .dat (pt e.1), .dat (pt e.2)], rfl, rfl, ?_, rfl, rfl⟩
    simp only [v_bok,v_berr,v_sok,v_serr,v_nx,v_rt,v_bk,v_ct,v_er,v_ofs,v_var,v_slot_dat,v_slot_own,v_c,v_bin,v_kbin,v_op2,v_pk2,v_un,v_op1,v_pk1,v_peek_dat,v_peek_fr,v_peek_slot,v_pslot_own,v_pslot_dat,v_cnl,v_test,v_ktest,v_nil,v_cons,v_kcons,v_kcons2,v_fast,v_kfast,v_all0,v_all1,v_kall,v_kall2,v_force_dat,v_force_fr,v_force_slot,v_fslot_own,v_fslot_dat,v_at_ok,v_at_err,v_vB,v_atB,v_vM2,v_vM3,v_cb,v_kcb,v_pkL,v_peeks0,v_peeks1,v_cons22,v_sl,v_ksl,v_ksl2,v_ksl3,v_slE_l,v_slE_t,v_slE_r,v_some,v_ksome,v_none,v_it_l,v_it_r,v_it_t,v_lc,v_klc,v_klc2,v_yes,v_ret,v_ret_dat,v_ret_fr,v_ret_slot,v_rslot_own,v_rslot_dat,v_retN,v_put_dat,v_put_fr,v_put_slot,v_kput,v_tgN,v_tgNil,v_tgCons,v_ktg,v_tgT,v_runF,v_endF_rt,v_endF_nx,v_endF_er,v_runB,v_endB_rt,v_endB_nx,v_add,v_sub,v_mod,v_neg,v_lt,v_cmp,v_eq,v_ne,v_len_l,v_len_t,v_len_r,v_ixt,v_ixl,v_ixr,v_eq_bb,v_ne_bb,v_zip_l,v_zip_t,v_subE_i,List.map_cons,List.map_nil,List.length_cons,List.length_nil,List.cons_append,List.nil_append,List.replicate_succ,List.replicate_zero,List.getElem?_cons_zero,List.getElem?_cons_succ,List.set_cons_zero,List.set_cons_succ,Option.map_some,Nat.reduceSub,Nat.reduceAdd,Nat.reduceLT,Nat.reduceLeDiff,bigN, C_are_ascending_0, lt_pt]) (by rw [List.length_map, List.length_zip]; show _ ≤ 1000000; omega)
  rw [List.map_map] at r
  have r2 := r.trans (congrArg (fun z => Res.ok z _) (show _ = (l.zip (l.drop 1)).map fun e => D.bl (ltP e.1 e.2) from List.map_congr_left fun e _ => rfl))
  unfold F_are_ascending M_are_ascending
  simp only [v_bok,v_berr,v_sok,v_serr,v_nx,v_rt,v_bk,v_ct,v_er,v_ofs,v_var,v_slot_dat,v_slot_own,v_c,v_bin,v_kbin,v_op2,v_pk2,v_un,v_op1,v_pk1,v_peek_dat,v_peek_fr,v_peek_slot,v_pslot_own,v_pslot_dat,v_cnl,v_test,v_ktest,v_nil,v_cons,v_kcons,v_kcons2,v_fast,v_kfast,v_all0,v_all1,v_kall,v_kall2,v_force_dat,v_force_fr,v_force_slot,v_fslot_own,v_fslot_dat,v_at_ok,v_at_err,v_vB,v_atB,v_vM2,v_vM3,v_cb,v_kcb,v_pkL,v_peeks0,v_peeks1,v_cons22,v_sl,v_ksl,v_ksl2,v_ksl3,v_slE_l,v_slE_t,v_slE_r,v_some,v_ksome,v_none,v_it_l,v_it_r,v_it_t,v_lc,v_klc,v_klc2,v_yes,v_ret,v_ret_dat,v_ret_fr,v_ret_slot,v_rslot_own,v_rslot_dat,v_retN,v_put_dat,v_put_fr,v_put_slot,v_kput,v_tgN,v_tgNil,v_tgCons,v_ktg,v_tgT,v_runF,v_endF_rt,v_endF_nx,v_endF_er,v_runB,v_endB_rt,v_endB_nx,v_add,v_sub,v_mod,v_neg,v_lt,v_cmp,v_eq,v_ne,v_len_l,v_len_t,v_len_r,v_ixt,v_ixl,v_ixr,v_eq_bb,v_ne_bb,v_zip_l,v_zip_t,v_subE_i,List.map_cons,List.map_nil,List.length_cons,List.length_nil,List.cons_append,List.nil_append,List.replicate_succ,List.replicate_zero,List.getElem?_cons_zero,List.getElem?_cons_succ,List.set_cons_zero,List.set_cons_succ,Option.map_some,Nat.reduceSub,Nat.reduceAdd,Nat.reduceLT,Nat.reduceLeDiff,bigN, nn_are_ascending, c1, ez, r2, allD_bl]
  rfl
end Lw
set_option maxHeartbeats 1000000
namespace Lw
open PySem DL
theorem as_comp {es : List D} (hp : ∀ d ∈ es, pv d = true) (hl : es.length ≤ 1000) : compL [1] (tgN 1) mYes C_are_spots_0 es [] [.dat (.tup es), .emp] = .ok (es.map fun d => .bl (isPt d)) [.dat (.tup es), .emp] := by
  refine comp_all (fun d => .bl (isPt d)) (fun x hx => ?_) (by show _ ≤ 1000000; omega)
  have hw := e_is_point (hp x hx)
  refine ⟨[.dat (.tup es), .dat x], [.dat (.tup es), .dat x], .dat (.bl (isPt x)), [.dat (.tup es), .dat x], [.dat (.tup es), .dat x], rfl, rfl, ?_, rfl, rfl⟩
  simp only [v_bok,v_berr,v_sok,v_serr,v_nx,v_rt,v_bk,v_ct,v_er,v_ofs,v_var,v_slot_dat,v_slot_own,v_c,v_bin,v_kbin,v_op2,v_pk2,v_un,v_op1,v_pk1,v_peek_dat,v_peek_fr,v_peek_slot,v_pslot_own,v_pslot_dat,v_cnl,v_test,v_ktest,v_nil,v_cons,v_kcons,v_kcons2,v_fast,v_kfast,v_all0,v_all1,v_kall,v_kall2,v_force_dat,v_force_fr,v_force_slot,v_fslot_own,v_fslot_dat,v_call,v_callF,v_at_ok,v_at_err,v_vB,v_atB,v_vM2,v_vM3,v_pkL,v_peeks0,v_peeks1,v_cons22,v_it_l,v_it_r,v_it_t,v_yes,v_ret_dat,v_ret_fr,v_ret_slot,v_rslot_own,v_rslot_dat,v_retN,v_put_dat,v_put_fr,v_put_slot,v_kput,v_tgN,v_tgNil,v_tgCons,v_ktg,v_tgT,v_runF,v_endF_rt,v_endF_nx,v_endF_er,v_runB,v_endB_rt,v_endB_nx,v_add,v_sub,v_mod,v_neg,v_lt,v_cmp,v_eq,v_ne,v_len_l,v_len_t,v_len_r,v_ixt,v_ixl,v_ixr,v_eq_bb,v_ne_bb,v_subE_i,List.map_cons,List.map_nil,List.length_cons,List.length_nil,List.cons_append,List.nil_append,List.replicate_succ,List.replicate_zero,List.getElem?_cons_zero,List.getElem?_cons_succ,List.set_cons_zero,List.set_cons_succ,Option.map_some,Nat.reduceSub,Nat.reduceAdd,Nat.reduceLT,Nat.reduceLeDiff,bigN, C_are_spots_0, hw]
theorem e_as_no {d : D} (h : d = .non ∨ ∃ l, d = .lst l) : F_are_spots [d] = .ok (.dat (.bl false)) := by
  unfold F_are_spots M_are_spots
  rcases h with rfl | ⟨l, rfl⟩ <;> simp only [v_bok,v_berr,v_sok,v_serr,v_nx,v_rt,v_bk,v_ct,v_er,v_ofs,v_var,v_slot_dat,v_slot_own,v_c,v_bin,v_kbin,v_op2,v_pk2,v_un,v_op1,v_pk1,v_peek_dat,v_peek_fr,v_peek_slot,v_pslot_own,v_pslot_dat,v_cnl,v_test,v_ktest,v_orT,v_kor1,v_kor0,v_notT,v_knotT,v_nil,v_cons,v_kcons,v_kcons2,v_fast,v_kfast,v_all0,v_all1,v_kall,v_kall2,v_force_dat,v_force_fr,v_force_slot,v_fslot_own,v_fslot_dat,v_call,v_callF,v_at_ok,v_at_err,v_vB,v_atB,v_vM2,v_vM3,v_cb,v_kcb,v_pkL,v_peeks0,v_peeks1,v_cons22,v_isi,v_iter,v_it_l,v_it_r,v_it_t,v_lc,v_klc,v_klc2,v_yes,v_seq,v_skip,v_ret,v_ret_dat,v_ret_fr,v_ret_slot,v_rslot_own,v_rslot_dat,v_retN,v_ifS,v_kifS1,v_kifS0,v_put_dat,v_put_fr,v_put_slot,v_kput,v_tgN,v_tgNil,v_tgCons,v_ktg,v_tgT,v_runF,v_endF_rt,v_endF_nx,v_endF_er,v_runB,v_endB_rt,v_endB_nx,v_add,v_sub,v_mod,v_neg,v_lt,v_cmp,v_eq,v_ne,v_len_l,v_len_t,v_len_r,v_ixt,v_ixl,v_ixr,v_kb_NoneType_bool,v_kb_NoneType_int,v_kb_NoneType_str,v_kb_NoneType_tuple,v_kb_NoneType_list,v_kb_NoneType_dict,v_kb_bool_bool,v_kb_bool_int,v_kb_bool_str,v_kb_bool_tuple,v_kb_bool_list,v_kb_bool_dict,v_kb_int_bool,v_kb_int_int,v_kb_int_str,v_kb_int_tuple,v_kb_int_list,v_kb_int_dict,v_kb_str_bool,v_kb_str_int,v_kb_str_str,v_kb_str_tuple,v_kb_str_list,v_kb_str_dict,v_kb_tuple_bool,v_kb_tuple_int,v_kb_tuple_str,v_kb_tuple_tuple,v_kb_tuple_list,v_kb_tuple_dict,v_kb_list_bool,v_kb_list_int,v_kb_list_str,v_kb_list_tuple,v_kb_list_list,v_kb_list_dict,v_kb_dict_bool,v_kb_dict_int,v_kb_dict_str,v_kb_dict_tuple,v_kb_dict_list,v_kb_dict_dict,v_isi_non,v_isi_bl,v_isi_int,v_isi_str,v_isi_tup,v_isi_lst,v_isi_dct,v_eq_bb,v_ne_bb,v_subE_i,List.map_cons,List.map_nil,List.length_cons,List.length_nil,List.cons_append,List.nil_append,List.replicate_succ,List.replicate_zero,List.getElem?_cons_zero,List.getElem?_cons_succ,List.set_cons_zero,List.set_cons_succ,Option.map_some,Nat.reduceSub,Nat.reduceAdd,Nat.reduceLT,Nat.reduceLeDiff,bigN, nn_are_spots] <;> rfl
def spB (l : List Pt) : Bool := cond (decide ((l.length : Int) > 60)) false (asc l)
theorem e_as {l : List Pt} (hl : l.length ≤ 1000) (hs : ∀ a ∈ l, Sm a) : F_are_spots [.tup (wk l)] = .ok (.dat (.bl (spB l))) := by
  have e0 : (wk l).length = l.length := List.length_map _
  have r := as_comp (es := wk l) (fun d hd => by obtain ⟨a, _, rfl⟩ := List.mem_map.mp hd; rfl) (by omega)
  have ha := wk_isPt hs
  have ht := e_are_asc hl
  unfold F_are_spots M_are_spots spB
  cases h0 : decide ((l.length : Int) > 60)
  · simp only [v_bok,v_berr,v_sok,v_serr,v_nx,v_rt,v_bk,v_ct,v_er,v_ofs,v_var,v_slot_dat,v_slot_own,v_c,v_bin,v_kbin,v_op2,v_pk2,v_un,v_op1,v_pk1,v_peek_dat,v_peek_fr,v_peek_slot,v_pslot_own,v_pslot_dat,v_cnl,v_test,v_ktest,v_orT,v_kor1,v_kor0,v_notT,v_knotT,v_nil,v_cons,v_kcons,v_kcons2,v_fast,v_kfast,v_all0,v_all1,v_kall,v_kall2,v_force_dat,v_force_fr,v_force_slot,v_fslot_own,v_fslot_dat,v_call,v_callF,v_at_ok,v_at_err,v_vB,v_atB,v_vM2,v_vM3,v_cb,v_kcb,v_pkL,v_peeks0,v_peeks1,v_cons22,v_isi,v_iter,v_it_l,v_it_r,v_it_t,v_lc,v_klc,v_klc2,v_yes,v_seq,v_skip,v_ret,v_ret_dat,v_ret_fr,v_ret_slot,v_rslot_own,v_rslot_dat,v_retN,v_ifS,v_kifS1,v_kifS0,v_put_dat,v_put_fr,v_put_slot,v_kput,v_tgN,v_tgNil,v_tgCons,v_ktg,v_tgT,v_runF,v_endF_rt,v_endF_nx,v_endF_er,v_runB,v_endB_rt,v_endB_nx,v_add,v_sub,v_mod,v_neg,v_lt,v_cmp,v_eq,v_ne,v_len_l,v_len_t,v_len_r,v_ixt,v_ixl,v_ixr,v_kb_NoneType_bool,v_kb_NoneType_int,v_kb_NoneType_str,v_kb_NoneType_tuple,v_kb_NoneType_list,v_kb_NoneType_dict,v_kb_bool_bool,v_kb_bool_int,v_kb_bool_str,v_kb_bool_tuple,v_kb_bool_list,v_kb_bool_dict,v_kb_int_bool,v_kb_int_int,v_kb_int_str,v_kb_int_tuple,v_kb_int_list,v_kb_int_dict,v_kb_str_bool,v_kb_str_int,v_kb_str_str,v_kb_str_tuple,v_kb_str_list,v_kb_str_dict,v_kb_tuple_bool,v_kb_tuple_int,v_kb_tuple_str,v_kb_tuple_tuple,v_kb_tuple_list,v_kb_tuple_dict,v_kb_list_bool,v_kb_list_int,v_kb_list_str,v_kb_list_tuple,v_kb_list_list,v_kb_list_dict,v_kb_dict_bool,v_kb_dict_int,v_kb_dict_str,v_kb_dict_tuple,v_kb_dict_list,v_kb_dict_dict,v_isi_non,v_isi_bl,v_isi_int,v_isi_str,v_isi_tup,v_isi_lst,v_isi_dct,v_eq_bb,v_ne_bb,v_subE_i,List.map_cons,List.map_nil,List.length_cons,List.length_nil,List.cons_append,List.nil_append,List.replicate_succ,List.replicate_zero,List.getElem?_cons_zero,List.getElem?_cons_succ,List.set_cons_zero,List.set_cons_succ,Option.map_some,Nat.reduceSub,Nat.reduceAdd,Nat.reduceLT,Nat.reduceLeDiff,bigN, nn_are_spots, e0, h0, Bool.not_true, Bool.not_false, r, allD_bl, ha, ht]
    rfl
  · simp only [v_bok,v_berr,v_sok,v_serr,v_nx,v_rt,v_bk,v_ct,v_er,v_ofs,v_var,v_slot_dat,v_slot_own,v_c,v_bin,v_kbin,v_op2,v_pk2,v_un,v_op1,v_pk1,v_peek_dat,v_peek_fr,v_peek_slot,v_pslot_own,v_pslot_dat,v_cnl,v_test,v_ktest,v_orT,v_kor1,v_kor0,v_notT,v_knotT,v_nil,v_cons,v_kcons,v_kcons2,v_fast,v_kfast,v_all0,v_all1,v_kall,v_kall2,v_force_dat,v_force_fr,v_force_slot,v_fslot_own,v_fslot_dat,v_call,v_callF,v_at_ok,v_at_err,v_vB,v_atB,v_vM2,v_vM3,v_cb,v_kcb,v_pkL,v_peeks0,v_peeks1,v_cons22,v_isi,v_iter,v_it_l,v_it_r,v_it_t,v_lc,v_klc,v_klc2,v_yes,v_seq,v_skip,v_ret,v_ret_dat,v_ret_fr,v_ret_slot,v_rslot_own,v_rslot_dat,v_retN,v_ifS,v_kifS1,v_kifS0,v_put_dat,v_put_fr,v_put_slot,v_kput,v_tgN,v_tgNil,v_tgCons,v_ktg,v_tgT,v_runF,v_endF_rt,v_endF_nx,v_endF_er,v_runB,v_endB_rt,v_endB_nx,v_add,v_sub,v_mod,v_neg,v_lt,v_cmp,v_eq,v_ne,v_len_l,v_len_t,v_len_r,v_ixt,v_ixl,v_ixr,v_kb_NoneType_bool,v_kb_NoneType_int,v_kb_NoneType_str,v_kb_NoneType_tuple,v_kb_NoneType_list,v_kb_NoneType_dict,v_kb_bool_bool,v_kb_bool_int,v_kb_bool_str,v_kb_bool_tuple,v_kb_bool_list,v_kb_bool_dict,v_kb_int_bool,v_kb_int_int,v_kb_int_str,v_kb_int_tuple,v_kb_int_list,v_kb_int_dict,v_kb_str_bool,v_kb_str_int,v_kb_str_str,v_kb_str_tuple,v_kb_str_list,v_kb_str_dict,v_kb_tuple_bool,v_kb_tuple_int,v_kb_tuple_str,v_kb_tuple_tuple,v_kb_tuple_list,v_kb_tuple_dict,v_kb_list_bool,v_kb_list_int,v_kb_list_str,v_kb_list_tuple,v_kb_list_list,v_kb_list_dict,v_kb_dict_bool,v_kb_dict_int,v_kb_dict_str,v_kb_dict_tuple,v_kb_dict_list,v_kb_dict_dict,v_isi_non,v_isi_bl,v_isi_int,v_isi_str,v_isi_tup,v_isi_lst,v_isi_dct,v_eq_bb,v_ne_bb,v_subE_i,List.map_cons,List.map_nil,List.length_cons,List.length_nil,List.cons_append,List.nil_append,List.replicate_succ,List.replicate_zero,List.getElem?_cons_zero,List.getElem?_cons_succ,List.set_cons_zero,List.set_cons_succ,Option.map_some,Nat.reduceSub,Nat.reduceAdd,Nat.reduceLT,Nat.reduceLeDiff,bigN, nn_are_spots, e0, h0, Bool.not_true, Bool.not_false]
    rfl
end Lw
set_option maxHeartbeats 1000000
namespace Lw
open PySem DL
theorem comp_st {vs : List Nat} {mt : D → DS → Option DS} {mc : DS → Res Bool} {me : DS → Res RV} {xs : List D} {τ : DS} (Inv : Nat → List D → DS → Prop) (h0 : Inv 0 [] τ)
    (step : ∀ i x acc τ, xs[i]? = some x → Inv i acc τ → ∃ τ1 τ2 r τ3 d τ4, mt x (wipeT τ vs) = some τ1 ∧ mc τ1 = .ok true τ2 ∧ me τ2 = .ok r τ3 ∧ force r τ3 = .ok d τ4 ∧ Inv (i + 1) (acc ++ [d]) (unwipe τ τ4 vs)) (hl : xs.length ≤ bigN) (hlen : ∀ i acc τ, Inv i acc τ → acc.length = i) :
    ∃ ds τ', compL vs mt mc me xs [] τ = .ok ds τ' ∧ Inv xs.length ds τ' := by
  have key : ∀ (ys : List D) (n : Nat) (acc : List D) (τ : DS), n + ys.length = xs.length → xs.drop n = ys → Inv n acc τ → ∃ ds τ', compL vs mt mc me ys acc τ = .ok ds τ' ∧ Inv xs.length ds τ' := by
    intro ys
    induction ys with
    | nil =>
      intro n acc τ e1 _ I
      refine ⟨acc, τ, by simp [compL], ?_⟩
      have : n = xs.length := by simpa using e1
      rw [← this]; exact I
    | cons y ys ih =>
      intro n acc τ e1 e2 I
      have hx : xs[n]? = some y := by
        have : (xs.drop n)[0]? = some y := by rw [e2]; rfl
        rwa [List.getElem?_drop, Nat.add_zero] at this
      obtain ⟨τ1, τ2, r, τ3, d, τ4, h1, h2, h3, h4, h5⟩ := step n y acc τ hx I
      have hd : xs.drop (n + 1) = ys := by rw [← List.drop_drop, e2]; rfl
      obtain ⟨ds, τ', h6, h7⟩ := ih (n + 1) (acc ++ [d]) _ (by rw [List.length_cons] at e1; omega) hd h5
      have hb : acc.length < bigN := by
        have := hlen n acc τ I
        rw [List.length_cons] at e1
        omega
      refine ⟨ds, τ', ?_, h7⟩
      unfold compL
      rw [h1]
      dsimp only
      rw [h2]
      dsimp only
      rw [h3, v_bok, h4]
      dsimp only
      rw [if_pos (by omega)]
      exact h6
  exact key xs 0 [] τ (by simp) (by simp) h0
theorem good_pt {a : Pt} {k : Nat} : Good (k + 2) (pt a) := ⟨show 2 ≤ 100000 by decide, fun x hx => by
  simp only [List.mem_cons, List.not_mem_nil, or_false] at hx
  rcases hx with rfl | rfl <;> trivial⟩
theorem good_wkl {l : List Pt} (h : l.length ≤ 100000) {k : Nat} : Good (k + 3) (.lst (wk l)) := ⟨by unfold wk; rw [List.length_map]; exact h, fun x hx => by
  obtain ⟨a, _, rfl⟩ := List.mem_map.mp hx
  exact good_pt⟩
theorem e_law_point {l : List Int} {most : Int} (hl : nonneg l) (hm : 2 ≤ most ∧ most ≤ 20) : ∃ (p : Pt) (l' : List Int), F_law_point (.lst (l.map D.int)) [.int most] = .ok (.dat (pt p)) (.lst (l'.map D.int)) ∧ Sm p ∧ nonneg l' := by
  obtain ⟨v, l1, t1, a1, a2, n1⟩ := e_take (l := l) (b := 25) (by decide) hl
  have ng : negD (.int 1000) = some (.dat (.int (-1000))) := rfl
  unfold F_law_point M_law_point
  cases hv : (v == 0)
  · obtain ⟨v2, l2, t2, b1, b2, n2⟩ := e_take (l := l1) (b := 2 * most + 1) (by omega) n1
    obtain ⟨v3, l3, t3, b3, b4, n3⟩ := e_take (l := l2) (b := 2 * most + 1) (by omega) n2
    have k1 : L2.CMul 2 most := cL (by omega) (by omega)
    refine ⟨(v2 - most, v3 - most), l3, ?_, ⟨by dsimp only; omega, by dsimp only; omega, by dsimp only; omega, by dsimp only; omega⟩, n3⟩
    unfold pt
    simp only [v_bok,v_berr,v_sok,v_serr,v_nx,v_rt,v_bk,v_ct,v_er,v_ofs,v_var,v_slot_dat,v_slot_own,v_c,v_bin,v_kbin,v_op2,v_pk2,v_un,v_op1,v_pk1,v_peek_dat,v_peek_fr,v_peek_slot,v_pslot_own,v_pslot_dat,v_cnl,v_test,v_ktest,v_nil,v_cons,v_kcons,v_kcons2,v_fast,v_kfast,v_all0,v_all1,v_kall,v_kall2,v_force_dat,v_force_fr,v_force_slot,v_fslot_own,v_fslot_dat,v_tup,v_ktup,v_lst,v_klst,v_at_ok,v_at_err,v_callB,v_vown,v_kcallB,v_vB,v_atB,v_vM2,v_vM3,v_pkL,v_peeks0,v_peeks1,v_cons22,v_it_l,v_it_r,v_it_t,v_seq,v_skip,v_ret,v_ret_dat,v_ret_fr,v_ret_slot,v_rslot_own,v_rslot_dat,v_retN,v_ifS,v_kifS1,v_kifS0,v_put_dat,v_put_fr,v_put_slot,v_kput,v_tgN,v_tgNil,v_tgCons,v_ktg,v_tgT,v_runF,v_endF_rt,v_endF_nx,v_endF_er,v_runB,v_endB_rt,v_endB_nx,v_add,v_sub,v_mod,v_neg,v_lt,v_cmp,v_eq,v_ne,v_len_l,v_len_t,v_len_r,v_ixt,v_ixl,v_ixr,v_eq_bb,v_ne_bb,v_mulE_i,v_mulE_t,v_mulE_l,v_subE_i,v_subE_b,v_add_l,v_add_t,List.map_cons,List.map_nil,List.length_cons,List.length_nil,List.cons_append,List.nil_append,List.replicate_succ,List.replicate_zero,List.getElem?_cons_zero,List.getElem?_cons_succ,List.set_cons_zero,List.set_cons_succ,Option.map_some,Nat.reduceSub,Nat.reduceAdd,Nat.reduceLT,Nat.reduceLeDiff,bigN, nn__law_point, t1, hv, v_mulE_i k1, t2, t3]
  · obtain ⟨d1, l2, p1, m1, n2⟩ := e_pick (l := l1) (ds := [.int (-1000), .int 1000, .int 999, .int 0]) (by simp) n1
    obtain ⟨d2, l3, p2, m2, n3⟩ := e_pick (l := l2) (ds := [.int (-1000), .int 1000, .int 7]) (by simp) n2
    obtain ⟨x, rfl, hx⟩ : ∃ x : Int, d1 = .int x ∧ -1000 ≤ x ∧ x ≤ 1000 := by
      simp only [List.mem_cons, List.not_mem_nil, or_false] at m1
      rcases m1 with rfl | rfl | rfl | rfl <;> exact ⟨_, rfl, by decide, by decide⟩
    obtain ⟨y, rfl, hy⟩ : ∃ x : Int, d2 = .int x ∧ -1000 ≤ x ∧ x ≤ 1000 := by
      simp only [List.mem_cons, List.not_mem_nil, or_false] at m2
      rcases m2 with rfl | rfl | rfl <;> exact ⟨_, rfl, by decide, by decide⟩
    refine ⟨(x, y), l3, ?_, ⟨hx.1, hx.2, hy.1, hy.2⟩, n3⟩
    unfold pt
    simp only [v_bok,v_berr,v_sok,v_serr,v_nx,v_rt,v_bk,v_ct,v_er,v_ofs,v_var,v_slot_dat,v_slot_own,v_c,v_bin,v_kbin,v_op2,v_pk2,v_un,v_op1,v_pk1,v_peek_dat,v_peek_fr,v_peek_slot,v_pslot_own,v_pslot_dat,v_cnl,v_test,v_ktest,v_nil,v_cons,v_kcons,v_kcons2,v_fast,v_kfast,v_all0,v_all1,v_kall,v_kall2,v_force_dat,v_force_fr,v_force_slot,v_fslot_own,v_fslot_dat,v_tup,v_ktup,v_lst,v_klst,v_at_ok,v_at_err,v_callB,v_vown,v_kcallB,v_vB,v_atB,v_vM2,v_vM3,v_pkL,v_peeks0,v_peeks1,v_cons22,v_it_l,v_it_r,v_it_t,v_seq,v_skip,v_ret,v_ret_dat,v_ret_fr,v_ret_slot,v_rslot_own,v_rslot_dat,v_retN,v_ifS,v_kifS1,v_kifS0,v_put_dat,v_put_fr,v_put_slot,v_kput,v_tgN,v_tgNil,v_tgCons,v_ktg,v_tgT,v_runF,v_endF_rt,v_endF_nx,v_endF_er,v_runB,v_endB_rt,v_endB_nx,v_add,v_sub,v_mod,v_neg,v_lt,v_cmp,v_eq,v_ne,v_len_l,v_len_t,v_len_r,v_ixt,v_ixl,v_ixr,v_eq_bb,v_ne_bb,v_mulE_i,v_mulE_t,v_mulE_l,v_subE_i,v_subE_b,v_add_l,v_add_t,List.map_cons,List.map_nil,List.length_cons,List.length_nil,List.cons_append,List.nil_append,List.replicate_succ,List.replicate_zero,List.getElem?_cons_zero,List.getElem?_cons_succ,List.set_cons_zero,List.set_cons_succ,Option.map_some,Nat.reduceSub,Nat.reduceAdd,Nat.reduceLT,Nat.reduceLeDiff,bigN, nn__law_point, t1, hv, ng, p1, p2]
theorem ss2_wk {P : List Pt} (h : P.length < 64) : ss2 (wk P) = some (.fr (.lst (wk (sortP P)))) := by
  unfold ss2
  by_cases c : P = []
  · subst c; rfl
  · rw [if_neg (by rw [allInts_none (fun d hd i z => by
      obtain ⟨p, _, e⟩ := List.mem_map.mp hd
      rw [← e] at z
      cases z) (by simpa [wk] using c)]; exact Bool.false_ne_true), ssE_wk h]
theorem e_law_spots {l : List Int} {many : Nat} (hm1 : 1 ≤ many ∧ many ≤ 40) (hl : nonneg l) : ∃ (P : List Pt) (l' : List Int), F_law_spots (.lst (l.map D.int)) [.int many] = .ok (.dat (.tup (wk (sortP P)))) (.lst (l'.map D.int)) ∧ (∀ a ∈ P, Sm a) ∧ nonneg l' ∧ P ≠ [] ∧ P.length = many := by
  obtain ⟨dm, l1, p1, m1, n1⟩ := e_pick (l := l) (ds := [.int 2, .int 3, .int 6, .int 20]) (by simp) hl
  obtain ⟨most, rfl, hm⟩ : ∃ most : Int, dm = .int most ∧ 2 ≤ most ∧ most ≤ 20 := by
    simp only [List.mem_cons, List.not_mem_nil, or_false] at m1
    rcases m1 with rfl | rfl | rfl | rfl <;> exact ⟨_, rfl, by decide, by decide⟩
  obtain ⟨ds, τ, r, l2, P, rfl, n2, rfl, sP, hP⟩ := comp_st (vs := [3]) (mt := tgN 3) (mc := mYes) (me := C_law_spots_0) (xs := iRow 0 ((many : Nat) : Int).toNat) (τ := [.own (.lst (l1.map D.int)), .dat (.int many), .dat (.int most), .emp])
    (fun i acc τ => ∃ (l2 : List Int) (P : List Pt), τ = [.own (.lst (l2.map D.int)), .dat (.int many), .dat (.int most), .emp] ∧ nonneg l2 ∧ acc = wk P ∧ (∀ a ∈ P, Sm a) ∧ P.length = i) ⟨l1, [], rfl, n1, rfl, (fun _ h => nomatch h), rfl⟩
    (fun i x acc τ hx ⟨l2, P, eτ, n2, ea, sP, hP⟩ => by
      subst eτ ea
      obtain ⟨p, l3, t, sp, n3⟩ := e_law_point (l := l2) n2 hm
      refine ⟨[.own (.lst (l2.map D.int)), .dat (.int many), .dat (.int most), .dat x], [.own (.lst (l2.map D.int)), .dat (.int many), .dat (.int most), .dat x], .dat (pt p), [.own (.lst (l3.map D.int)), .dat (.int many), .dat (.int most), .dat x], pt p, [.own (.lst (l3.map D.int)), .dat (.int many), .dat (.int most), .dat x], rfl, rfl, ?_, rfl, l3, P ++ [p], rfl, n3, ?_, ?_, ?_⟩
      · simp only [v_bok,v_berr,v_sok,v_serr,v_nx,v_rt,v_bk,v_ct,v_er,v_ofs,v_var,v_slot_dat,v_slot_own,v_c,v_bin,v_kbin,v_op2,v_pk2,v_un,v_op1,v_pk1,v_peek_dat,v_peek_fr,v_peek_slot,v_pslot_own,v_pslot_dat,v_cnl,v_test,v_ktest,v_nil,v_cons,v_kcons,v_kcons2,v_fast,v_kfast,v_all0,v_all1,v_kall,v_kall2,v_force_dat,v_force_fr,v_force_slot,v_fslot_own,v_fslot_dat,v_lst,v_klst,v_at_ok,v_at_err,v_callB,v_vown,v_kcallB,v_vB,v_atB,v_vM2,v_vM3,v_cb,v_kcb,v_pkL,v_peeks0,v_peeks1,v_cons22,v_it_l,v_it_r,v_it_t,v_rng1,v_lc,v_klc,v_klc2,v_yes,v_seq,v_ret,v_ret_dat,v_ret_fr,v_ret_slot,v_rslot_own,v_rslot_dat,v_retN,v_set,v_put_dat,v_put_fr,v_put_slot,v_kput,v_tgN,v_tgNil,v_tgCons,v_ktg,v_tgT,v_runF,v_endF_rt,v_endF_nx,v_endF_er,v_runB,v_endB_rt,v_endB_nx,v_add,v_sub,v_mod,v_neg,v_lt,v_cmp,v_eq,v_ne,v_len_l,v_len_t,v_len_r,v_ixt,v_ixl,v_ixr,v_eq_bb,v_ne_bb,v_subE_i,v_tuple_l,v_tuple_t,v_mSS3,v_ss3_l,v_ss3_t,List.map_cons,List.map_nil,List.length_cons,List.length_nil,List.cons_append,List.nil_append,List.replicate_succ,List.replicate_zero,List.getElem?_cons_zero,List.getElem?_cons_succ,List.set_cons_zero,List.set_cons_succ,Option.map_some,Nat.reduceSub,Nat.reduceAdd,Nat.reduceLT,Nat.reduceLeDiff,bigN, C_law_spots_0, t]
      · unfold wk; rw [List.map_append]; rfl
      · intro a ha
        rcases List.mem_append.mp ha with q | q
        · exact sP a q
        · rw [List.mem_singleton.mp q]; exact sp
      · simp [hP]) (by rw [iRow_len, Int.toNat_natCast]; exact Nat.le_trans hm1.2 (by decide)) (fun i acc τ ⟨l2, P, _, _, ea, _, hP⟩ => by rw [ea]; unfold wk; rw [List.length_map]; exact hP)
  rw [iRow_len, Int.toNat_natCast] at hP
  have ss := ss2_wk (P := P) (by omega)
  have tp : tupleD [.lst (wk (sortP P))] = some (.dat (.tup (wk (sortP P)))) := rfl
  have r9 : -1000000000 ≤ (many : Int) ∧ (many : Int) < 1000000000 := by omega
  refine ⟨P, l2, ?_, sP, n2, ?_, hP⟩
  · unfold F_law_spots M_law_spots
    simp only [v_bok,v_berr,v_sok,v_serr,v_nx,v_rt,v_bk,v_ct,v_er,v_ofs,v_var,v_slot_dat,v_slot_own,v_c,v_bin,v_kbin,v_op2,v_pk2,v_un,v_op1,v_pk1,v_peek_dat,v_peek_fr,v_peek_slot,v_pslot_own,v_pslot_dat,v_cnl,v_test,v_ktest,v_nil,v_cons,v_kcons,v_kcons2,v_fast,v_kfast,v_all0,v_all1,v_kall,v_kall2,v_force_dat,v_force_fr,v_force_slot,v_fslot_own,v_fslot_dat,v_lst,v_klst,v_at_ok,v_at_err,v_callB,v_vown,v_kcallB,v_vB,v_atB,v_vM2,v_vM3,v_cb,v_kcb,v_pkL,v_peeks0,v_peeks1,v_cons22,v_it_l,v_it_r,v_it_t,v_rng1,v_lc,v_klc,v_klc2,v_yes,v_seq,v_ret,v_ret_dat,v_ret_fr,v_ret_slot,v_rslot_own,v_rslot_dat,v_retN,v_set,v_put_dat,v_put_fr,v_put_slot,v_kput,v_tgN,v_tgNil,v_tgCons,v_ktg,v_tgT,v_runF,v_endF_rt,v_endF_nx,v_endF_er,v_runB,v_endB_rt,v_endB_nx,v_add,v_sub,v_mod,v_neg,v_lt,v_cmp,v_eq,v_ne,v_len_l,v_len_t,v_len_r,v_ixt,v_ixl,v_ixr,v_eq_bb,v_ne_bb,v_subE_i,v_tuple_l,v_tuple_t,v_mSS3,v_ss3_l,v_ss3_t,List.map_cons,List.map_nil,List.length_cons,List.length_nil,List.cons_append,List.nil_append,List.replicate_succ,List.replicate_zero,List.getElem?_cons_zero,List.getElem?_cons_succ,List.set_cons_zero,List.set_cons_succ,Option.map_some,Nat.reduceSub,Nat.reduceAdd,Nat.reduceLT,Nat.reduceLeDiff,bigN, nn__law_spots, p1, v_rng1 r9, r, ss, tp]
  · intro e
    rw [e] at hP
    simp at hP
    omega
theorem pick_pt {l : List Int} {P : List Pt} (hl : nonneg l) (hP : P ≠ []) : ∃ (a : Pt) (l' : List Int), F_law_pick (.lst (l.map D.int)) [.lst (wk P)] = .ok (.dat (pt a)) (.lst (l'.map D.int)) ∧ a ∈ P ∧ nonneg l' := by
  obtain ⟨d, l', h1, h2, h3⟩ := e_pick (l := l) (ds := wk P) (fun e => hP (List.map_eq_nil_iff.mp e)) hl
  obtain ⟨a, ha, rfl⟩ := List.mem_map.mp h2
  exact ⟨a, l', h1, ha, h3⟩
end Lw
set_option maxHeartbeats 1000000
namespace Lw
open PySem DL
theorem e_takeN {l : List Int} {b : Int} (hb : 0 < b) (hl : nonneg l) : ∃ (v : Nat) (l' : List Int), F_law_take (.lst (l.map D.int)) [.int b] = .ok (.dat (.int (v : Nat))) (.lst (l'.map D.int)) ∧ (v : Int) < b ∧ nonneg l' := by
  obtain ⟨v, l', h, h0, h1, hn⟩ := e_take hb hl
  obtain ⟨v, rfl⟩ := Int.eq_ofNat_of_zero_le h0
  exact ⟨v, l', h, h1, hn⟩
theorem wk_len (l : List Pt) : (wk l).length = l.length := List.length_map ..
theorem wk_at {l : List Pt} {i : Nat} (h : i < l.length) : (wk l)[i]? = some (pt l[i]) := by
  unfold wk
  rw [List.getElem?_map, List.getElem?_eq_getElem h]; rfl
theorem er_map : ∀ (l : List Pt) (i : Nat), (wk l).eraseIdx i = wk (l.eraseIdx i)
  | [], _ => rfl
  | _ :: _, 0 => rfl
  | a :: l, i + 1 => congrArg (pt a :: ·) (er_map l i)
theorem perm_er {α : Type} : ∀ {l : List α} {i : Nat} (h : i < l.length), (l[i] :: l.eraseIdx i).Perm l
  | a :: l, 0, _ => List.Perm.refl _
  | a :: l, i + 1, h => (List.Perm.swap a (l[i]'(by simpa using h)) (l.eraseIdx i)).trans ((perm_er (l := l) (i := i) (by simpa using h)).cons a)
def mxS (l : List Int) (rows left found : List Pt) (z : SV) : DS := [.own (.lst (l.map D.int)), .dat (.lst (wk rows)), .own (.lst (wk left)), .own (.lst (wk found)), z]
theorem e_mixed {l : List Int} {rows : List Pt} (hl : nonneg l) (hr : rows.length ≤ 1000) : ∃ l' m, F_law_mixed (.lst (l.map D.int)) [.lst (wk rows)] = .ok (.fr (.lst (wk m))) (.lst (l'.map D.int)) ∧ nonneg l' ∧ m.Perm rows := by
  obtain ⟨τ', h, l', left, found, z, rfl, h1, h2, h3⟩ := for_all (mt := tgN 4) (mb := B_law_mixed_0) (xs := iRow 0 rows.length) (τ := mxS l rows rows [] .emp)
    (fun i τ => ∃ l' left found z, τ = mxS l' rows left found z ∧ nonneg l' ∧ found.length = i ∧ (found ++ left).Perm rows) ⟨l, rows, [], .emp, rfl, hl, rfl, List.Perm.refl _⟩
    (fun i x τ hx ⟨l', left, found, z, e, h1, h3, h4⟩ => by
      subst e
      have hi : i < rows.length := by
        have := (List.getElem?_eq_some_iff.mp hx).1
        rwa [iRow_len] at this
      have h2 := h4.length_eq
      rw [List.length_append] at h2
      obtain ⟨v, l2, q1, q2, q3⟩ := e_takeN (b := (left.length : Int)) (by omega) h1
      have hv : v < left.length := by omega
      have pp := popAt_eq (wk_at hv) (by rw [wk_len]; show _ ≤ 1000000; omega)
      have e1 : (wk left).eraseIdx v = wk (left.eraseIdx v) := by exact er_map _ _
      have ap : fAppend (wk found) [pt left[v]] = some (.non, wk (found ++ [left[v]])) := by
        rw [v_append (by rw [wk_len]; show _ < 1000000; omega)]
        unfold wk; simp
      have e0 := wk_len left
      rw [e1] at pp
      refine ⟨mxS l' rows left found (.dat x), mxS l2 rows (left.eraseIdx v) (found ++ [left[v]]) (.dat x), rfl, ?_, l2, _, _, _, rfl, q3, by rw [List.length_append, h3]; rfl, ?_⟩
      · simp only [v_bok,v_berr,v_sok,v_serr,v_nx,v_rt,v_bk,v_ct,v_er,v_ofs,v_var,v_slot_dat,v_slot_own,v_c,v_bin,v_kbin,v_op2,v_pk2,v_un,v_op1,v_pk1,v_peek_dat,v_peek_fr,v_peek_slot,v_pslot_own,v_pslot_dat,v_cnl,v_test,v_ktest,v_nil,v_cons,v_kcons,v_kcons2,v_fast,v_kfast,v_all0,v_all1,v_kall,v_kall2,v_force_dat,v_force_fr,v_force_slot,v_fslot_own,v_fslot_dat,v_lst,v_klst,v_at_ok,v_at_err,v_callB,v_vown,v_kcallB,v_vB,v_atB,v_meth,v_vM,v_methAt,v_vM2,v_vM3,v_append,v_cb,v_kcb,v_pkL,v_peeks0,v_peeks1,v_cons22,v_it_l,v_it_r,v_it_t,v_rng1,v_seq,v_drop,v_kdrop,v_ret,v_ret_dat,v_ret_fr,v_ret_slot,v_rslot_own,v_rslot_dat,v_retN,v_set,v_put_dat,v_put_fr,v_put_slot,v_kput,v_tgN,v_tgNil,v_tgCons,v_ktg,v_tgT,v_for,v_runF,v_endF_rt,v_endF_nx,v_endF_er,v_runB,v_endB_rt,v_endB_nx,v_add,v_sub,v_mod,v_neg,v_lt,v_cmp,v_eq,v_ne,v_len_l,v_len_t,v_len_r,v_list_l,v_list_t,v_ixt,v_ixl,v_ixr,v_eq_bb,v_ne_bb,v_subE_i,List.map_cons,List.map_nil,List.length_cons,List.length_nil,List.cons_append,List.nil_append,List.replicate_succ,List.replicate_zero,List.getElem?_cons_zero,List.getElem?_cons_succ,List.set_cons_zero,List.set_cons_succ,Option.map_some,Nat.reduceSub,Nat.reduceAdd,Nat.reduceLT,Nat.reduceLeDiff,bigN, B_law_mixed_0, mxS, e0, q1, pp, ap]
      · rw [List.append_assoc]
        exact ((perm_er hv).append_left found).trans h4)
  rw [iRow_len] at h2
  have hle := h3.length_eq
  rw [List.length_append] at hle
  have el : left = [] := List.length_eq_zero_iff.mp (by omega)
  refine ⟨l', found, ?_, h1, by rwa [el, List.append_nil] at h3⟩
  have e0 := wk_len rows
  have r0 : -1000000000 ≤ (rows.length : Int) ∧ (rows.length : Int) < 1000000000 := by omega
  have r1 : (rows.length : Int).toNat = rows.length := by omega
  unfold mxS at h
  have e2 : wk [] = [] := rfl
  rw [e2] at h
  unfold F_law_mixed M_law_mixed
  simp only [v_bok,v_berr,v_sok,v_serr,v_nx,v_rt,v_bk,v_ct,v_er,v_ofs,v_var,v_slot_dat,v_slot_own,v_c,v_bin,v_kbin,v_op2,v_pk2,v_un,v_op1,v_pk1,v_peek_dat,v_peek_fr,v_peek_slot,v_pslot_own,v_pslot_dat,v_cnl,v_test,v_ktest,v_nil,v_cons,v_kcons,v_kcons2,v_fast,v_kfast,v_all0,v_all1,v_kall,v_kall2,v_force_dat,v_force_fr,v_force_slot,v_fslot_own,v_fslot_dat,v_lst,v_klst,v_at_ok,v_at_err,v_callB,v_vown,v_kcallB,v_vB,v_atB,v_meth,v_vM,v_methAt,v_vM2,v_vM3,v_append,v_cb,v_kcb,v_pkL,v_peeks0,v_peeks1,v_cons22,v_it_l,v_it_r,v_it_t,v_rng1,v_seq,v_drop,v_kdrop,v_ret,v_ret_dat,v_ret_fr,v_ret_slot,v_rslot_own,v_rslot_dat,v_retN,v_set,v_put_dat,v_put_fr,v_put_slot,v_kput,v_tgN,v_tgNil,v_tgCons,v_ktg,v_tgT,v_for,v_runF,v_endF_rt,v_endF_nx,v_endF_er,v_runB,v_endB_rt,v_endB_nx,v_add,v_sub,v_mod,v_neg,v_lt,v_cmp,v_eq,v_ne,v_len_l,v_len_t,v_len_r,v_list_l,v_list_t,v_ixt,v_ixl,v_ixr,v_eq_bb,v_ne_bb,v_subE_i,List.map_cons,List.map_nil,List.length_cons,List.length_nil,List.cons_append,List.nil_append,List.replicate_succ,List.replicate_zero,List.getElem?_cons_zero,List.getElem?_cons_succ,List.set_cons_zero,List.set_cons_succ,Option.map_some,Nat.reduceSub,Nat.reduceAdd,Nat.reduceLT,Nat.reduceLeDiff,bigN, nn__law_mixed, e0, v_rng1 r0, r1, h]
end Lw
set_option maxHeartbeats 1000000
namespace Lw
open PySem DL
theorem half_mod {x y : Nat} (h : y ≤ x) (hy : 0 < y) : 2 * (x % y) ≤ x := by
  have h1 := Nat.mod_lt x hy
  have h2 := Nat.div_add_mod x y
  have h3 : 1 ≤ x / y := (Nat.one_le_div_iff hy).mpr h
  have h4 : y * 1 ≤ y * (x / y) := Nat.mul_le_mul_left y h3
  omega
theorem e_law_common {n d : Int} (hd : d.natAbs < 4294967296) : F_law_common [.int n, .int d] = .ok (.dat (.int (Int.gcd n d))) := by
  have key := for_rule (mt := tgN 2) (mb := B_law_common_0) (xs := iRow 0 (4000 : Int).toNat) (τ := [.dat (.int n.natAbs), .dat (.int d.natAbs), .emp]) (R := fun r => ∃ y z, r = .nx [.dat (.int (Int.gcd n d)), y, z])
    (fun i τ => ∃ (x y : Nat) (z : SV), τ = [.dat (.int x), .dat (.int y), z] ∧ Nat.gcd x y = Int.gcd n d ∧ (y = 0 ∨ (i = 0 ∧ y = d.natAbs) ∨ ∃ j, i = j + 1 ∧ y < x ∧ x * y * 2 ^ j ≤ d.natAbs * d.natAbs)) ⟨n.natAbs, d.natAbs, .emp, rfl, rfl, .inr (.inl ⟨rfl, rfl⟩)⟩ (fun i t τ hx ⟨x, y, z, eτ, h, hm⟩ => by
      subst eτ
      refine ⟨[.dat (.int x), .dat (.int y), .dat t], rfl, ?_⟩
      by_cases hy : y = 0
      · subst hy
        refine .inr (.inl ⟨[.dat (.int x), .dat (.int (0 : Nat)), .dat t], ?_, ?_⟩)
        · simp only [v_bok,v_berr,v_sok,v_serr,v_nx,v_rt,v_bk,v_ct,v_er,v_ofs,v_var,v_slot_dat,v_slot_own,v_c,v_bin,v_kbin,v_op2,v_pk2,v_un,v_op1,v_pk1,v_peek_dat,v_peek_fr,v_peek_slot,v_pslot_own,v_pslot_dat,v_cnl,v_test,v_ktest,v_nil,v_cons,v_kcons,v_kcons2,v_fast,v_kfast,v_all0,v_all1,v_kall,v_kall2,v_force_dat,v_force_fr,v_force_slot,v_fslot_own,v_fslot_dat,v_at_ok,v_at_err,v_vB,v_atB,v_vM2,v_vM3,v_cb,v_kcb,v_pkL,v_peeks0,v_peeks1,v_cons22,v_it_l,v_it_r,v_it_t,v_rng1,v_seq,v_skip,v_break,v_ret,v_ret_dat,v_ret_fr,v_ret_slot,v_rslot_own,v_rslot_dat,v_retN,v_ifS,v_kifS1,v_kifS0,v_put_dat,v_put_fr,v_put_slot,v_kput,v_tgN,v_tgNil,v_tgCons,v_ktg,v_tgT,v_par,v_kpar,v_kpar1,v_kpar2,v_kpar3,v_fix_dat,v_fix_fr,v_fix_slot,v_kfix,v_for,v_runF,v_endF_rt,v_endF_nx,v_endF_er,v_runB,v_endB_rt,v_endB_nx,v_add,v_sub,v_mod,v_neg,v_lt,v_cmp,v_eq,v_ne,v_absD,v_int1,v_len_l,v_len_t,v_len_r,v_ixt,v_ixl,v_ixr,v_eq_bb,v_ne_bb,v_subE_i,v_int1_1,v_int1_0,List.map_cons,List.map_nil,List.length_cons,List.length_nil,List.cons_append,List.nil_append,List.replicate_succ,List.replicate_zero,List.getElem?_cons_zero,List.getElem?_cons_succ,List.set_cons_zero,List.set_cons_succ,Option.map_some,Nat.reduceSub,Nat.reduceAdd,Nat.reduceLT,Nat.reduceLeDiff,bigN, B_law_common_0]
          rfl
        · rw [Nat.gcd_zero_right] at h
          exact ⟨_, _, by rw [h]⟩
      · have hy0 : (y : Int) ≠ 0 := by omega
        have hb : ((y : Int) == 0) = false := beq_eq_false_iff_ne.mpr hy0
        refine .inl ⟨[.dat (.int y), .dat (.int ((x % y : Nat) : Int)), .dat t], .inl ?_, y, x % y, .dat t, rfl, by rw [gcd_step, h], ?_⟩
        · simp only [v_bok,v_berr,v_sok,v_serr,v_nx,v_rt,v_bk,v_ct,v_er,v_ofs,v_var,v_slot_dat,v_slot_own,v_c,v_bin,v_kbin,v_op2,v_pk2,v_un,v_op1,v_pk1,v_peek_dat,v_peek_fr,v_peek_slot,v_pslot_own,v_pslot_dat,v_cnl,v_test,v_ktest,v_nil,v_cons,v_kcons,v_kcons2,v_fast,v_kfast,v_all0,v_all1,v_kall,v_kall2,v_force_dat,v_force_fr,v_force_slot,v_fslot_own,v_fslot_dat,v_at_ok,v_at_err,v_vB,v_atB,v_vM2,v_vM3,v_cb,v_kcb,v_pkL,v_peeks0,v_peeks1,v_cons22,v_it_l,v_it_r,v_it_t,v_rng1,v_seq,v_skip,v_break,v_ret,v_ret_dat,v_ret_fr,v_ret_slot,v_rslot_own,v_rslot_dat,v_retN,v_ifS,v_kifS1,v_kifS0,v_put_dat,v_put_fr,v_put_slot,v_kput,v_tgN,v_tgNil,v_tgCons,v_ktg,v_tgT,v_par,v_kpar,v_kpar1,v_kpar2,v_kpar3,v_fix_dat,v_fix_fr,v_fix_slot,v_kfix,v_for,v_runF,v_endF_rt,v_endF_nx,v_endF_er,v_runB,v_endB_rt,v_endB_nx,v_add,v_sub,v_mod,v_neg,v_lt,v_cmp,v_eq,v_ne,v_absD,v_int1,v_len_l,v_len_t,v_len_r,v_ixt,v_ixl,v_ixr,v_eq_bb,v_ne_bb,v_subE_i,v_int1_1,v_int1_0,List.map_cons,List.map_nil,List.length_cons,List.length_nil,List.cons_append,List.nil_append,List.replicate_succ,List.replicate_zero,List.getElem?_cons_zero,List.getElem?_cons_succ,List.set_cons_zero,List.set_cons_succ,Option.map_some,Nat.reduceSub,Nat.reduceAdd,Nat.reduceLT,Nat.reduceLeDiff,bigN, B_law_common_0, hb, v_mod hy0, fm_nat]
        · have lt := Nat.mod_lt x (show 0 < y by omega)
          rcases hm with q | ⟨q, q2⟩ | ⟨j, q, q2, q3⟩
          · exact absurd q hy
          · refine .inr (.inr ⟨0, by omega, lt, ?_⟩)
            rw [Nat.pow_zero, Nat.mul_one, q2]
            exact Nat.mul_le_mul_left _ (Nat.le_of_lt (by rw [← q2]; exact lt))
          · refine .inr (.inr ⟨j + 1, by omega, lt, ?_⟩)
            have h2 := half_mod (Nat.le_of_lt q2) (show 0 < y by omega)
            refine Nat.le_trans ?_ q3
            rw [Nat.pow_succ, ← Nat.mul_assoc, Nat.mul_right_comm, Nat.mul_assoc y, Nat.mul_comm y]
            refine Nat.mul_le_mul_right _ (Nat.mul_le_mul_right _ ?_)
            omega) (fun τ ⟨x, y, z, eτ, h, hm⟩ => by
      subst eτ
      rw [iRow_len] at hm
      have : y = 0 := by
        rcases hm with q | ⟨q, _⟩ | ⟨j, q, q2, q3⟩
        · exact q
        · exact absurd q (by decide)
        · have hj : j = 3999 := by
            have : (4000 : Int).toNat = 4000 := rfl
            omega
          by_cases hy : y = 0
          · exact hy
          · exfalso
            have p : (2 : Nat) ^ 64 ≤ 2 ^ j := Nat.pow_le_pow_right (by decide) (by omega)
            have xy : 1 ≤ x * y := Nat.mul_pos (by omega) (by omega)
            have b1 : 1 * 2 ^ j ≤ x * y * 2 ^ j := Nat.mul_le_mul_right _ xy
            have b2 : d.natAbs * d.natAbs < 4294967296 * 4294967296 := Nat.mul_lt_mul'' hd hd
            have b3 : (4294967296 : Nat) * 4294967296 = 2 ^ 64 := by decide
            omega
      subst this
      rw [Nat.gcd_zero_right] at h
      exact ⟨_, _, by rw [h]⟩)
  obtain ⟨y, z, e⟩ := key
  have r4 : -1000000000 ≤ (4000 : Int) ∧ (4000 : Int) < 1000000000 := by decide
  unfold F_law_common M_law_common
  simp only [v_bok,v_berr,v_sok,v_serr,v_nx,v_rt,v_bk,v_ct,v_er,v_ofs,v_var,v_slot_dat,v_slot_own,v_c,v_bin,v_kbin,v_op2,v_pk2,v_un,v_op1,v_pk1,v_peek_dat,v_peek_fr,v_peek_slot,v_pslot_own,v_pslot_dat,v_cnl,v_test,v_ktest,v_nil,v_cons,v_kcons,v_kcons2,v_fast,v_kfast,v_all0,v_all1,v_kall,v_kall2,v_force_dat,v_force_fr,v_force_slot,v_fslot_own,v_fslot_dat,v_at_ok,v_at_err,v_vB,v_atB,v_vM2,v_vM3,v_cb,v_kcb,v_pkL,v_peeks0,v_peeks1,v_cons22,v_it_l,v_it_r,v_it_t,v_rng1,v_seq,v_skip,v_break,v_ret,v_ret_dat,v_ret_fr,v_ret_slot,v_rslot_own,v_rslot_dat,v_retN,v_ifS,v_kifS1,v_kifS0,v_put_dat,v_put_fr,v_put_slot,v_kput,v_tgN,v_tgNil,v_tgCons,v_ktg,v_tgT,v_par,v_kpar,v_kpar1,v_kpar2,v_kpar3,v_fix_dat,v_fix_fr,v_fix_slot,v_kfix,v_for,v_runF,v_endF_rt,v_endF_nx,v_endF_er,v_runB,v_endB_rt,v_endB_nx,v_add,v_sub,v_mod,v_neg,v_lt,v_cmp,v_eq,v_ne,v_absD,v_int1,v_len_l,v_len_t,v_len_r,v_ixt,v_ixl,v_ixr,v_eq_bb,v_ne_bb,v_subE_i,v_int1_1,v_int1_0,List.map_cons,List.map_nil,List.length_cons,List.length_nil,List.cons_append,List.nil_append,List.replicate_succ,List.replicate_zero,List.getElem?_cons_zero,List.getElem?_cons_succ,List.set_cons_zero,List.set_cons_succ,Option.map_some,Nat.reduceSub,Nat.reduceAdd,Nat.reduceLT,Nat.reduceLeDiff,bigN, nn__law_common, ab_nat, v_rng1 r4, e]
end Lw
set_option maxHeartbeats 1000000
namespace Lw
open PySem DL
def rt (n d : Int) : Int × Int := if d < 0 then ((-n) / (Int.gcd n d : Int), (-d) / (Int.gcd n d : Int)) else (n / (Int.gcd n d : Int), d / (Int.gcd n d : Int))
def ra (r : Int × Int) : D := .tup [.int r.1, .int r.2]
def dOk (d : Int) : Prop := d ≠ 0 ∧ -1000000000 < d ∧ d < 1000000000
theorem rt_neg {n g : Int} : n.fdiv (-g) = (-n).fdiv g := by
  have := Int.neg_fdiv_neg (-n) g
  rwa [Int.neg_neg] at this
theorem f_neg {k l : Int} (h : 0 < l) (h2 : l < 1073741824) : fdivD (.int k) (.int (-l)) = some (.dat (.int ((-k).fdiv l))) := by
  unfold fdivD
  dsimp only
  rw [if_pos ⟨by omega, by omega⟩, rt_neg]
theorem gcd_b {n d : Int} (h : dOk d) : (0 : Int) < (Int.gcd n d : Int) ∧ (Int.gcd n d : Int) < 1073741824 := by
  have g0 : 0 < Int.gcd n d := Int.gcd_pos_of_ne_zero_right _ h.1
  have g1 : (Int.gcd n d : Int) ∣ d := Int.gcd_dvd_right n d
  have g2 : Int.gcd n d ∣ d.natAbs := Int.ofNat_dvd_left.mp g1
  have g3 := Nat.le_of_dvd (by have := h.1; omega) g2
  have := h.2
  omega
theorem e_made {n d : Int} (h : dOk d) : F_made [.int n, .int d] = .ok (.dat (ra (rt n d))) := by
  obtain ⟨g1, g4⟩ := gcd_b (n := n) h
  have g2 : (Int.gcd n d : Int) < 2 ^ 250 := Int.lt_of_lt_of_le g4 (by decide)
  unfold F_made M_made rt ra
  by_cases hd : d < 0
  · have c0 : decide (d > 0) = false := decide_eq_false (by omega)
    generalize hg : (Int.gcd n d : Int) = g at *
    simp only [v_bok,v_berr,v_sok,v_serr,v_nx,v_rt,v_bk,v_ct,v_er,v_ofs,v_var,v_slot_dat,v_slot_own,v_c,v_bin,v_kbin,v_op2,v_pk2,v_un,v_op1,v_pk1,v_peek_dat,v_peek_fr,v_peek_slot,v_pslot_own,v_pslot_dat,v_cnl,v_test,v_ktest,v_if,v_kif1,v_kif0,v_nil,v_cons,v_kcons,v_kcons2,v_fast,v_kfast,v_all0,v_all1,v_kall,v_kall2,v_force_dat,v_force_fr,v_force_slot,v_fslot_own,v_fslot_dat,v_tup,v_ktup,v_call,v_callF,v_at_ok,v_at_err,v_vB,v_atB,v_vM2,v_vM3,v_pkL,v_peeks0,v_peeks1,v_cons22,v_it_l,v_it_r,v_it_t,v_seq,v_ret,v_ret_dat,v_ret_fr,v_ret_slot,v_rslot_own,v_rslot_dat,v_retN,v_set,v_put_dat,v_put_fr,v_put_slot,v_kput,v_tgN,v_tgNil,v_tgCons,v_ktg,v_tgT,v_runF,v_endF_rt,v_endF_nx,v_endF_er,v_runB,v_endB_rt,v_endB_nx,v_add,v_sub,v_mod,v_fdiv,v_neg,v_lt,v_cmp,v_eq,v_ne,v_len_l,v_len_t,v_len_r,v_ixt,v_ixl,v_ixr,v_eq_bb,v_ne_bb,v_subE_i,List.map_cons,List.map_nil,List.length_cons,List.length_nil,List.cons_append,List.nil_append,List.replicate_succ,List.replicate_zero,List.getElem?_cons_zero,List.getElem?_cons_succ,List.set_cons_zero,List.set_cons_succ,Option.map_some,Nat.reduceSub,Nat.reduceAdd,Nat.reduceLT,Nat.reduceLeDiff,bigN, nn_made, c0, e_shared, hg, f_neg g1 g4, fd (Int.le_of_lt g1), if_pos hd]
  · have c0 : decide (d > 0) = true := decide_eq_true (by have := h.1; omega)
    generalize hg : (Int.gcd n d : Int) = g at *
    simp only [v_bok,v_berr,v_sok,v_serr,v_nx,v_rt,v_bk,v_ct,v_er,v_ofs,v_var,v_slot_dat,v_slot_own,v_c,v_bin,v_kbin,v_op2,v_pk2,v_un,v_op1,v_pk1,v_peek_dat,v_peek_fr,v_peek_slot,v_pslot_own,v_pslot_dat,v_cnl,v_test,v_ktest,v_if,v_kif1,v_kif0,v_nil,v_cons,v_kcons,v_kcons2,v_fast,v_kfast,v_all0,v_all1,v_kall,v_kall2,v_force_dat,v_force_fr,v_force_slot,v_fslot_own,v_fslot_dat,v_tup,v_ktup,v_call,v_callF,v_at_ok,v_at_err,v_vB,v_atB,v_vM2,v_vM3,v_pkL,v_peeks0,v_peeks1,v_cons22,v_it_l,v_it_r,v_it_t,v_seq,v_ret,v_ret_dat,v_ret_fr,v_ret_slot,v_rslot_own,v_rslot_dat,v_retN,v_set,v_put_dat,v_put_fr,v_put_slot,v_kput,v_tgN,v_tgNil,v_tgCons,v_ktg,v_tgT,v_runF,v_endF_rt,v_endF_nx,v_endF_er,v_runB,v_endB_rt,v_endB_nx,v_add,v_sub,v_mod,v_fdiv,v_neg,v_lt,v_cmp,v_eq,v_ne,v_len_l,v_len_t,v_len_r,v_ixt,v_ixl,v_ixr,v_eq_bb,v_ne_bb,v_subE_i,List.map_cons,List.map_nil,List.length_cons,List.length_nil,List.cons_append,List.nil_append,List.replicate_succ,List.replicate_zero,List.getElem?_cons_zero,List.getElem?_cons_succ,List.set_cons_zero,List.set_cons_succ,Option.map_some,Nat.reduceSub,Nat.reduceAdd,Nat.reduceLT,Nat.reduceLeDiff,bigN, nn_made, c0, e_shared, hg, v_fdiv g1 g2, fd (Int.le_of_lt g1), if_neg hd]
theorem e_ratio {n d : Int} (h : dOk d) : F_law_ratio [.int n, .int d] = .ok (.dat (ra (rt n d))) := by
  obtain ⟨g1, g4⟩ := gcd_b (n := n) h
  have g2 : (Int.gcd n d : Int) < 2 ^ 250 := Int.lt_of_lt_of_le g4 (by decide)
  have ec := e_law_common (n := n) (d := d) (by have := h.2; omega)
  unfold F_law_ratio M_law_ratio rt ra
  by_cases hd : d < 0
  · have c0 : decide (d < 0) = true := decide_eq_true hd
    generalize hg : (Int.gcd n d : Int) = g at *
    simp only [v_bok,v_berr,v_sok,v_serr,v_nx,v_rt,v_bk,v_ct,v_er,v_ofs,v_var,v_slot_dat,v_slot_own,v_c,v_bin,v_kbin,v_op2,v_pk2,v_un,v_op1,v_pk1,v_peek_dat,v_peek_fr,v_peek_slot,v_pslot_own,v_pslot_dat,v_cnl,v_test,v_ktest,v_nil,v_cons,v_kcons,v_kcons2,v_fast,v_kfast,v_all0,v_all1,v_kall,v_kall2,v_force_dat,v_force_fr,v_force_slot,v_fslot_own,v_fslot_dat,v_tup,v_ktup,v_call,v_callF,v_at_ok,v_at_err,v_vB,v_atB,v_vM2,v_vM3,v_pkL,v_peeks0,v_peeks1,v_cons22,v_it_l,v_it_r,v_it_t,v_seq,v_skip,v_ret,v_ret_dat,v_ret_fr,v_ret_slot,v_rslot_own,v_rslot_dat,v_retN,v_ifS,v_kifS1,v_kifS0,v_set,v_put_dat,v_put_fr,v_put_slot,v_kput,v_tgN,v_tgNil,v_tgCons,v_ktg,v_tgT,v_runF,v_endF_rt,v_endF_nx,v_endF_er,v_runB,v_endB_rt,v_endB_nx,v_add,v_sub,v_mod,v_fdiv,v_neg,v_lt,v_cmp,v_eq,v_ne,v_len_l,v_len_t,v_len_r,v_ixt,v_ixl,v_ixr,v_eq_bb,v_ne_bb,v_subE_i,List.map_cons,List.map_nil,List.length_cons,List.length_nil,List.cons_append,List.nil_append,List.replicate_succ,List.replicate_zero,List.getElem?_cons_zero,List.getElem?_cons_succ,List.set_cons_zero,List.set_cons_succ,Option.map_some,Nat.reduceSub,Nat.reduceAdd,Nat.reduceLT,Nat.reduceLeDiff,bigN, nn__law_ratio, c0, ec, f_neg g1 g4, fd (Int.le_of_lt g1), if_pos hd]
  · have c0 : decide (d < 0) = false := decide_eq_false hd
    generalize hg : (Int.gcd n d : Int) = g at *
    simp only [v_bok,v_berr,v_sok,v_serr,v_nx,v_rt,v_bk,v_ct,v_er,v_ofs,v_var,v_slot_dat,v_slot_own,v_c,v_bin,v_kbin,v_op2,v_pk2,v_un,v_op1,v_pk1,v_peek_dat,v_peek_fr,v_peek_slot,v_pslot_own,v_pslot_dat,v_cnl,v_test,v_ktest,v_nil,v_cons,v_kcons,v_kcons2,v_fast,v_kfast,v_all0,v_all1,v_kall,v_kall2,v_force_dat,v_force_fr,v_force_slot,v_fslot_own,v_fslot_dat,v_tup,v_ktup,v_call,v_callF,v_at_ok,v_at_err,v_vB,v_atB,v_vM2,v_vM3,v_pkL,v_peeks0,v_peeks1,v_cons22,v_it_l,v_it_r,v_it_t,v_seq,v_skip,v_ret,v_ret_dat,v_ret_fr,v_ret_slot,v_rslot_own,v_rslot_dat,v_retN,v_ifS,v_kifS1,v_kifS0,v_set,v_put_dat,v_put_fr,v_put_slot,v_kput,v_tgN,v_tgNil,v_tgCons,v_ktg,v_tgT,v_runF,v_endF_rt,v_endF_nx,v_endF_er,v_runB,v_endB_rt,v_endB_nx,v_add,v_sub,v_mod,v_fdiv,v_neg,v_lt,v_cmp,v_eq,v_ne,v_len_l,v_len_t,v_len_r,v_ixt,v_ixl,v_ixr,v_eq_bb,v_ne_bb,v_subE_i,List.map_cons,List.map_nil,List.length_cons,List.length_nil,List.cons_append,List.nil_append,List.replicate_succ,List.replicate_zero,List.getElem?_cons_zero,List.getElem?_cons_succ,List.set_cons_zero,List.set_cons_succ,Option.map_some,Nat.reduceSub,Nat.reduceAdd,Nat.reduceLT,Nat.reduceLeDiff,bigN, nn__law_ratio, c0, ec, v_fdiv g1 g2, fd (Int.le_of_lt g1), if_neg hd]
end Lw
set_option maxHeartbeats 1000000
namespace Lw
open PySem DL
def lowM (a b c d : Pt) : Int := (b.1 - a.1) * (d.2 - c.2) - (b.2 - a.2) * (d.1 - c.1)
def highM (a b c d : Pt) : Int := (c.1 - a.1) * (d.2 - c.2) - (c.2 - a.2) * (d.1 - c.1)
def mtg (a b c d : Pt) : D := if lowM a b c d = 0 then .non else .tup [ra (rt (a.1 * lowM a b c d + (b.1 - a.1) * highM a b c d) (lowM a b c d)), ra (rt (a.2 * lowM a b c d + (b.2 - a.2) * highM a b c d) (lowM a b c d))]
theorem mul_b {x y : Int} (hx : -2000 ≤ x ∧ x ≤ 2000) (hy : -2000 ≤ y ∧ y ≤ 2000) : -4000000 ≤ x * y ∧ x * y ≤ 4000000 := by
  have h := Int.natAbs_mul x y
  have h1 : x.natAbs * y.natAbs ≤ 2000 * 2000 := Nat.mul_le_mul (by omega) (by omega)
  omega
theorem low_ok {a b c d : Pt} (ha : Sm a) (hb : Sm b) (hc : Sm c) (hd : Sm d) (h : lowM a b c d ≠ 0) : dOk (lowM a b c d) := by
  obtain ⟨a1, a2, a3, a4⟩ := ha
  obtain ⟨b1, b2, b3, b4⟩ := hb
  obtain ⟨c1, c2, c3, c4⟩ := hc
  obtain ⟨d1, d2, d3, d4⟩ := hd
  have m1 := mul_b (x := b.1 - a.1) (y := d.2 - c.2) (by omega) (by omega)
  have m2 := mul_b (x := b.2 - a.2) (y := d.1 - c.1) (by omega) (by omega)
  refine ⟨h, ?_, ?_⟩ <;> unfold lowM <;> omega
theorem e_meeting_by {a b c d : Pt} (ha : Sm a) (hb : Sm b) (hc : Sm c) (hd : Sm d) : F_meeting_by [ed (a, b), ed (c, d)] = .ok (.dat (mtg a b c d)) := by
  have lo := fun h => low_ok ha hb hc hd h
  obtain ⟨a1, a2, a3, a4⟩ := ha
  obtain ⟨b1, b2, b3, b4⟩ := hb
  obtain ⟨c1, c2, c3, c4⟩ := hc
  obtain ⟨d1, d2, d3, d4⟩ := hd
  have k1 : L2.CMul (b.1 - a.1) (d.2 - c.2) := cL (by omega) (by omega)
  have k2 : L2.CMul (b.2 - a.2) (d.1 - c.1) := cL (by omega) (by omega)
  have k3 : L2.CMul (c.1 - a.1) (d.2 - c.2) := cL (by omega) (by omega)
  have k4 : L2.CMul (c.2 - a.2) (d.1 - c.1) := cL (by omega) (by omega)
  have k5 : ∀ z, L2.CMul a.1 z := fun z => cL (by omega) (by omega)
  have k6 : ∀ z, L2.CMul a.2 z := fun z => cL (by omega) (by omega)
  have k7 : ∀ z, L2.CMul (b.1 - a.1) z := fun z => cL (by omega) (by omega)
  have k8 : ∀ z, L2.CMul (b.2 - a.2) z := fun z => cL (by omega) (by omega)
  have el : (b.1 - a.1) * (d.2 - c.2) - (b.2 - a.2) * (d.1 - c.1) = lowM a b c d := rfl
  have eh : (c.1 - a.1) * (d.2 - c.2) - (c.2 - a.2) * (d.1 - c.1) = highM a b c d := rfl
  unfold F_meeting_by M_meeting_by ed pt
  by_cases h : lowM a b c d = 0
  · have hb0 : (lowM a b c d == 0) = true := beq_iff_eq.mpr h
    simp only [v_bok,v_berr,v_sok,v_serr,v_nx,v_rt,v_bk,v_ct,v_er,v_ofs,v_var,v_slot_dat,v_slot_own,v_c,v_bin,v_kbin,v_op2,v_pk2,v_un,v_op1,v_pk1,v_peek_dat,v_peek_fr,v_peek_slot,v_pslot_own,v_pslot_dat,v_cnl,v_test,v_ktest,v_nil,v_cons,v_kcons,v_kcons2,v_fast,v_kfast,v_all0,v_all1,v_kall,v_kall2,v_force_dat,v_force_fr,v_force_slot,v_fslot_own,v_fslot_dat,v_tup,v_ktup,v_call,v_callF,v_at_ok,v_at_err,v_vB,v_atB,v_vM2,v_vM3,v_pkL,v_peeks0,v_peeks1,v_cons22,v_it_l,v_it_r,v_it_t,v_seq,v_skip,v_ret,v_ret_dat,v_ret_fr,v_ret_slot,v_rslot_own,v_rslot_dat,v_retN,v_ifS,v_kifS1,v_kifS0,v_set,v_put_dat,v_put_fr,v_put_slot,v_kput,v_asg,v_kasg,v_kasg2,v_tgN,v_tgNil,v_tgCons,v_ktg,v_tgT,v_par,v_kpar,v_kpar1,v_kpar2,v_kpar3,v_fix_dat,v_fix_fr,v_fix_slot,v_kfix,v_runF,v_endF_rt,v_endF_nx,v_endF_er,v_runB,v_endB_rt,v_endB_nx,v_add,v_sub,v_mod,v_neg,v_lt,v_cmp,v_eq,v_ne,v_len_l,v_len_t,v_len_r,v_ixt,v_ixl,v_ixr,v_eq_bb,v_ne_bb,v_mulE_i,v_mulE_t,v_mulE_l,v_subE_i,v_subE_b,v_add_l,v_add_t,List.map_cons,List.map_nil,List.length_cons,List.length_nil,List.cons_append,List.nil_append,List.replicate_succ,List.replicate_zero,List.getElem?_cons_zero,List.getElem?_cons_succ,List.set_cons_zero,List.set_cons_succ,Option.map_some,Nat.reduceSub,Nat.reduceAdd,Nat.reduceLT,Nat.reduceLeDiff,bigN, nn_meeting_by, at0, at1, v_mulE_i k1, v_mulE_i k2, el, hb0, mtg, if_pos h]
  · have hb0 : (lowM a b c d == 0) = false := beq_eq_false_iff_ne.mpr h
    simp only [v_bok,v_berr,v_sok,v_serr,v_nx,v_rt,v_bk,v_ct,v_er,v_ofs,v_var,v_slot_dat,v_slot_own,v_c,v_bin,v_kbin,v_op2,v_pk2,v_un,v_op1,v_pk1,v_peek_dat,v_peek_fr,v_peek_slot,v_pslot_own,v_pslot_dat,v_cnl,v_test,v_ktest,v_nil,v_cons,v_kcons,v_kcons2,v_fast,v_kfast,v_all0,v_all1,v_kall,v_kall2,v_force_dat,v_force_fr,v_force_slot,v_fslot_own,v_fslot_dat,v_tup,v_ktup,v_call,v_callF,v_at_ok,v_at_err,v_vB,v_atB,v_vM2,v_vM3,v_pkL,v_peeks0,v_peeks1,v_cons22,v_it_l,v_it_r,v_it_t,v_seq,v_skip,v_ret,v_ret_dat,v_ret_fr,v_ret_slot,v_rslot_own,v_rslot_dat,v_retN,v_ifS,v_kifS1,v_kifS0,v_set,v_put_dat,v_put_fr,v_put_slot,v_kput,v_asg,v_kasg,v_kasg2,v_tgN,v_tgNil,v_tgCons,v_ktg,v_tgT,v_par,v_kpar,v_kpar1,v_kpar2,v_kpar3,v_fix_dat,v_fix_fr,v_fix_slot,v_kfix,v_runF,v_endF_rt,v_endF_nx,v_endF_er,v_runB,v_endB_rt,v_endB_nx,v_add,v_sub,v_mod,v_neg,v_lt,v_cmp,v_eq,v_ne,v_len_l,v_len_t,v_len_r,v_ixt,v_ixl,v_ixr,v_eq_bb,v_ne_bb,v_mulE_i,v_mulE_t,v_mulE_l,v_subE_i,v_subE_b,v_add_l,v_add_t,List.map_cons,List.map_nil,List.length_cons,List.length_nil,List.cons_append,List.nil_append,List.replicate_succ,List.replicate_zero,List.getElem?_cons_zero,List.getElem?_cons_succ,List.set_cons_zero,List.set_cons_succ,Option.map_some,Nat.reduceSub,Nat.reduceAdd,Nat.reduceLT,Nat.reduceLeDiff,bigN, nn_meeting_by, at0, at1, v_mulE_i k1, v_mulE_i k2, v_mulE_i k3, v_mulE_i k4, v_mulE_i (k5 _), v_mulE_i (k6 _), v_mulE_i (k7 _), v_mulE_i (k8 _), el, eh, hb0, e_made (lo h), mtg, if_neg h]
end Lw
set_option maxHeartbeats 1000000
namespace Lw
open PySem DL
theorem e_law_meeting {a b c d : Pt} (ha : Sm a) (hb : Sm b) (hc : Sm c) (hd : Sm d) : F_law_meeting [ed (a, b), ed (c, d)] = .ok (.dat (mtg a b c d)) := by
  have lo := fun h => low_ok ha hb hc hd h
  obtain ⟨a1, a2, a3, a4⟩ := ha
  obtain ⟨b1, b2, b3, b4⟩ := hb
  obtain ⟨c1, c2, c3, c4⟩ := hc
  obtain ⟨d1, d2, d3, d4⟩ := hd
  have k1 : ∀ z, L2.CMul (b.2 - a.2) z := fun z => cL (by omega) (by omega)
  have k2 : ∀ z, L2.CMul (a.1 - b.1) z := fun z => cL (by omega) (by omega)
  have k3 : ∀ z, L2.CMul (d.2 - c.2) z := fun z => cL (by omega) (by omega)
  have k4 : ∀ z, L2.CMul (c.1 - d.1) z := fun z => cL (by omega) (by omega)
  have k5 : ∀ z, L2.CMul z (c.1 - d.1) := fun z => c_r (by omega) (by omega)
  have k6 : ∀ z, L2.CMul z (d.2 - c.2) := fun z => c_r (by omega) (by omega)
  have el : (b.2 - a.2) * (c.1 - d.1) - (a.1 - b.1) * (d.2 - c.2) = lowM a b c d := by unfold lowM; grind
  have e1 : ((b.2 - a.2) * a.1 + (a.1 - b.1) * a.2) * (c.1 - d.1) - (a.1 - b.1) * ((d.2 - c.2) * c.1 + (c.1 - d.1) * c.2) = a.1 * lowM a b c d + (b.1 - a.1) * highM a b c d := by unfold lowM highM; grind
  have e2 : (b.2 - a.2) * ((d.2 - c.2) * c.1 + (c.1 - d.1) * c.2) - ((b.2 - a.2) * a.1 + (a.1 - b.1) * a.2) * (d.2 - c.2) = a.2 * lowM a b c d + (b.2 - a.2) * highM a b c d := by unfold lowM highM; grind
  unfold F_law_meeting M_law_meeting ed pt
  by_cases h : lowM a b c d = 0
  · have hb0 : (lowM a b c d == 0) = true := beq_iff_eq.mpr h
    simp only [v_bok,v_berr,v_sok,v_serr,v_nx,v_rt,v_bk,v_ct,v_er,v_ofs,v_var,v_slot_dat,v_slot_own,v_c,v_bin,v_kbin,v_op2,v_pk2,v_un,v_op1,v_pk1,v_peek_dat,v_peek_fr,v_peek_slot,v_pslot_own,v_pslot_dat,v_cnl,v_test,v_ktest,v_nil,v_cons,v_kcons,v_kcons2,v_fast,v_kfast,v_all0,v_all1,v_kall,v_kall2,v_force_dat,v_force_fr,v_force_slot,v_fslot_own,v_fslot_dat,v_tup,v_ktup,v_call,v_callF,v_at_ok,v_at_err,v_vB,v_atB,v_vM2,v_vM3,v_pkL,v_peeks0,v_peeks1,v_cons22,v_it_l,v_it_r,v_it_t,v_seq,v_skip,v_ret,v_ret_dat,v_ret_fr,v_ret_slot,v_rslot_own,v_rslot_dat,v_retN,v_ifS,v_kifS1,v_kifS0,v_set,v_put_dat,v_put_fr,v_put_slot,v_kput,v_asg,v_kasg,v_kasg2,v_tgN,v_tgNil,v_tgCons,v_ktg,v_tgT,v_runF,v_endF_rt,v_endF_nx,v_endF_er,v_runB,v_endB_rt,v_endB_nx,v_add,v_sub,v_mod,v_neg,v_lt,v_cmp,v_eq,v_ne,v_len_l,v_len_t,v_len_r,v_ixt,v_ixl,v_ixr,v_eq_bb,v_ne_bb,v_mulE_i,v_mulE_t,v_mulE_l,v_par3,v_kpar3s,v_subE_i,v_subE_b,v_add_l,v_add_t,List.map_cons,List.map_nil,List.length_cons,List.length_nil,List.cons_append,List.nil_append,List.replicate_succ,List.replicate_zero,List.getElem?_cons_zero,List.getElem?_cons_succ,List.set_cons_zero,List.set_cons_succ,Option.map_some,Nat.reduceSub,Nat.reduceAdd,Nat.reduceLT,Nat.reduceLeDiff,bigN, nn__law_meeting, at0, at1, v_mulE_i (k1 _), v_mulE_i (k2 _), v_mulE_i (k3 _), v_mulE_i (k4 _), el, hb0, mtg, if_pos h]
  · have hb0 : (lowM a b c d == 0) = false := beq_eq_false_iff_ne.mpr h
    simp only [v_bok,v_berr,v_sok,v_serr,v_nx,v_rt,v_bk,v_ct,v_er,v_ofs,v_var,v_slot_dat,v_slot_own,v_c,v_bin,v_kbin,v_op2,v_pk2,v_un,v_op1,v_pk1,v_peek_dat,v_peek_fr,v_peek_slot,v_pslot_own,v_pslot_dat,v_cnl,v_test,v_ktest,v_nil,v_cons,v_kcons,v_kcons2,v_fast,v_kfast,v_all0,v_all1,v_kall,v_kall2,v_force_dat,v_force_fr,v_force_slot,v_fslot_own,v_fslot_dat,v_tup,v_ktup,v_call,v_callF,v_at_ok,v_at_err,v_vB,v_atB,v_vM2,v_vM3,v_pkL,v_peeks0,v_peeks1,v_cons22,v_it_l,v_it_r,v_it_t,v_seq,v_skip,v_ret,v_ret_dat,v_ret_fr,v_ret_slot,v_rslot_own,v_rslot_dat,v_retN,v_ifS,v_kifS1,v_kifS0,v_set,v_put_dat,v_put_fr,v_put_slot,v_kput,v_asg,v_kasg,v_kasg2,v_tgN,v_tgNil,v_tgCons,v_ktg,v_tgT,v_runF,v_endF_rt,v_endF_nx,v_endF_er,v_runB,v_endB_rt,v_endB_nx,v_add,v_sub,v_mod,v_neg,v_lt,v_cmp,v_eq,v_ne,v_len_l,v_len_t,v_len_r,v_ixt,v_ixl,v_ixr,v_eq_bb,v_ne_bb,v_mulE_i,v_mulE_t,v_mulE_l,v_par3,v_kpar3s,v_subE_i,v_subE_b,v_add_l,v_add_t,List.map_cons,List.map_nil,List.length_cons,List.length_nil,List.cons_append,List.nil_append,List.replicate_succ,List.replicate_zero,List.getElem?_cons_zero,List.getElem?_cons_succ,List.set_cons_zero,List.set_cons_succ,Option.map_some,Nat.reduceSub,Nat.reduceAdd,Nat.reduceLT,Nat.reduceLeDiff,bigN, nn__law_meeting, at0, at1, v_mulE_i (k1 _), v_mulE_i (k2 _), v_mulE_i (k3 _), v_mulE_i (k4 _), v_mulE_i (k5 _), v_mulE_i (k6 _), el, e1, e2, hb0, e_ratio (lo h), mtg, if_neg h]
end Lw
set_option maxHeartbeats 1000000
namespace Lw
open PySem DL
theorem e_distance_by {a b : Pt} (ha : Sm a) (hb : Sm b) : F_distance_by [pt a, pt b] = .ok (.dat (.int (dist a b))) := by
  obtain ⟨a1, a2, a3, a4⟩ := ha
  obtain ⟨b1, b2, b3, b4⟩ := hb
  have q1 := pow2 (i := b.1 - a.1) (by omega)
  have q2 := pow2 (i := b.2 - a.2) (by omega)
  have e : (b.1 - a.1) ^ 2 + (b.2 - a.2) ^ 2 = dist a b := by unfold dist; grind
  unfold F_distance_by M_distance_by pt
  simp only [v_bok,v_berr,v_sok,v_serr,v_nx,v_rt,v_bk,v_ct,v_er,v_ofs,v_var,v_slot_dat,v_slot_own,v_c,v_bin,v_kbin,v_op2,v_pk2,v_un,v_op1,v_pk1,v_peek_dat,v_peek_fr,v_peek_slot,v_pslot_own,v_pslot_dat,v_cnl,v_test,v_ktest,v_nil,v_cons,v_kcons,v_kcons2,v_all0,v_all1,v_kall,v_kall2,v_force_dat,v_force_fr,v_force_slot,v_fslot_own,v_fslot_dat,v_at_ok,v_at_err,v_vB,v_atB,v_vM2,v_vM3,v_pkL,v_peeks0,v_peeks1,v_cons22,v_it_l,v_it_r,v_it_t,v_ret,v_ret_dat,v_ret_fr,v_ret_slot,v_rslot_own,v_rslot_dat,v_retN,v_put_dat,v_put_fr,v_put_slot,v_kput,v_tgN,v_tgNil,v_tgCons,v_ktg,v_tgT,v_runF,v_endF_rt,v_endF_nx,v_endF_er,v_runB,v_endB_rt,v_endB_nx,v_add,v_sub,v_mod,v_neg,v_lt,v_cmp,v_eq,v_ne,v_len_l,v_len_t,v_len_r,v_ixt,v_ixl,v_ixr,v_eq_bb,v_ne_bb,v_subE_i,v_subE_b,v_add_l,v_add_t,List.map_cons,List.map_nil,List.length_cons,List.length_nil,List.cons_append,List.nil_append,List.replicate_succ,List.replicate_zero,List.getElem?_cons_zero,List.getElem?_cons_succ,List.set_cons_zero,List.set_cons_succ,Option.map_some,Nat.reduceSub,Nat.reduceAdd,Nat.reduceLT,Nat.reduceLeDiff,bigN, nn_distance_by, at0, at1, q1, q2, e]
end Lw
set_option maxHeartbeats 1000000
namespace Lw
open PySem DL
def av (x y : Int) : Int := if y = 0 then -1000000000000000000 else -(x * 1000000000 / y)
def up (x y : Int) : Bool := decide (y > 0) || ((y == 0) && decide (x > 0))
def ang (x y : Int) : Int × Int := if up x y = true then (0, av x y) else (1, av (-x) (-y))
theorem e_angle {x y : Int} (hx : -2000 ≤ x ∧ x ≤ 2000) (hy : -2000 ≤ y ∧ y ≤ 2000) : F_angle [.int x, .int y] = .ok (.dat (.tup [.int (ang x y).1, .int (ang x y).2])) := by
  have k1 : L2.CMul x 1000000000 := cL (by omega) (by omega)
  have k2 : L2.CMul (-x) 1000000000 := cL (by omega) (by omega)
  have k3 : mulE (.int (-1000000000)) (.int 1000000000) = some (.dat (.int (-1000000000000000000))) := v_mulE_i (cL (by omega) (by omega))
  have z01 : ((0 : Int) == 1) = false := by decide
  have z11 : ((1 : Int) == 1) = true := by decide
  have z00 : ((0 : Int) == 0) = true := by decide
  unfold F_angle M_angle
  by_cases h1 : y > 0
  · have hb : (y == 0) = false := beq_eq_false_iff_ne.mpr (by omega)
    have hb2 : decide (y > 0) = true := decide_eq_true h1
    have f := v_fdiv (k := x * 1000000000) (l := y) h1 (Int.lt_of_le_of_lt hy.2 (by decide))
    have e : ang x y = (0, -(x * 1000000000 / y)) := by simp [ang, up, av, h1, show y ≠ 0 by omega]
    simp only [v_bok,v_berr,v_sok,v_serr,v_nx,v_rt,v_bk,v_ct,v_er,v_ofs,v_var,v_slot_dat,v_slot_own,v_c,v_bin,v_kbin,v_op2,v_pk2,v_un,v_op1,v_pk1,v_peek_dat,v_peek_fr,v_peek_slot,v_pslot_own,v_pslot_dat,v_cnl,v_test,v_ktest,v_andT,v_kand1,v_kand0,v_orT,v_kor1,v_kor0,v_if,v_kif1,v_kif0,v_nil,v_cons,v_kcons,v_kcons2,v_fast,v_kfast,v_all0,v_all1,v_kall,v_kall2,v_force_dat,v_force_fr,v_force_slot,v_fslot_own,v_fslot_dat,v_tup,v_ktup,v_at_ok,v_at_err,v_vB,v_atB,v_vM2,v_vM3,v_pkL,v_peeks0,v_peeks1,v_cons22,v_it_l,v_it_r,v_it_t,v_seq,v_skip,v_ret,v_ret_dat,v_ret_fr,v_ret_slot,v_rslot_own,v_rslot_dat,v_retN,v_ifS,v_kifS1,v_kifS0,v_set,v_put_dat,v_put_fr,v_put_slot,v_kput,v_tgN,v_tgNil,v_tgCons,v_ktg,v_tgT,v_par,v_kpar,v_kpar1,v_kpar2,v_kpar3,v_fix_dat,v_fix_fr,v_fix_slot,v_kfix,v_runF,v_endF_rt,v_endF_nx,v_endF_er,v_runB,v_endB_rt,v_endB_nx,v_add,v_sub,v_mod,v_fdiv,v_neg,v_lt,v_cmp,v_eq,v_ne,v_len_l,v_len_t,v_len_r,v_ixt,v_ixl,v_ixr,v_eq_bb,v_ne_bb,v_mulE_i,v_mulE_t,v_mulE_l,v_subE_i,List.map_cons,List.map_nil,List.length_cons,List.length_nil,List.cons_append,List.nil_append,List.replicate_succ,List.replicate_zero,List.getElem?_cons_zero,List.getElem?_cons_succ,List.set_cons_zero,List.set_cons_succ,Option.map_some,Nat.reduceSub,Nat.reduceAdd,Nat.reduceLT,Nat.reduceLeDiff,bigN, nn_angle, hb, hb2, z01, v_mulE_i k1, f, fd (Int.le_of_lt h1), e]
  · have hb2 : decide (y > 0) = false := decide_eq_false h1
    by_cases h0 : y = 0
    · subst h0
      by_cases h2 : x > 0
      · have hc : decide (x > 0) = true := decide_eq_true h2
        have e : ang x 0 = (0, -1000000000000000000) := by simp [ang, up, av, h2]
        simp only [v_bok,v_berr,v_sok,v_serr,v_nx,v_rt,v_bk,v_ct,v_er,v_ofs,v_var,v_slot_dat,v_slot_own,v_c,v_bin,v_kbin,v_op2,v_pk2,v_un,v_op1,v_pk1,v_peek_dat,v_peek_fr,v_peek_slot,v_pslot_own,v_pslot_dat,v_cnl,v_test,v_ktest,v_andT,v_kand1,v_kand0,v_orT,v_kor1,v_kor0,v_if,v_kif1,v_kif0,v_nil,v_cons,v_kcons,v_kcons2,v_fast,v_kfast,v_all0,v_all1,v_kall,v_kall2,v_force_dat,v_force_fr,v_force_slot,v_fslot_own,v_fslot_dat,v_tup,v_ktup,v_at_ok,v_at_err,v_vB,v_atB,v_vM2,v_vM3,v_pkL,v_peeks0,v_peeks1,v_cons22,v_it_l,v_it_r,v_it_t,v_seq,v_skip,v_ret,v_ret_dat,v_ret_fr,v_ret_slot,v_rslot_own,v_rslot_dat,v_retN,v_ifS,v_kifS1,v_kifS0,v_set,v_put_dat,v_put_fr,v_put_slot,v_kput,v_tgN,v_tgNil,v_tgCons,v_ktg,v_tgT,v_par,v_kpar,v_kpar1,v_kpar2,v_kpar3,v_fix_dat,v_fix_fr,v_fix_slot,v_kfix,v_runF,v_endF_rt,v_endF_nx,v_endF_er,v_runB,v_endB_rt,v_endB_nx,v_add,v_sub,v_mod,v_fdiv,v_neg,v_lt,v_cmp,v_eq,v_ne,v_len_l,v_len_t,v_len_r,v_ixt,v_ixl,v_ixr,v_eq_bb,v_ne_bb,v_mulE_i,v_mulE_t,v_mulE_l,v_subE_i,List.map_cons,List.map_nil,List.length_cons,List.length_nil,List.cons_append,List.nil_append,List.replicate_succ,List.replicate_zero,List.getElem?_cons_zero,List.getElem?_cons_succ,List.set_cons_zero,List.set_cons_succ,Option.map_some,Nat.reduceSub,Nat.reduceAdd,Nat.reduceLT,Nat.reduceLeDiff,bigN, nn_angle, hb2, hc, z00, z01, k3, e]
      · have hc : decide (x > 0) = false := decide_eq_false h2
        have e : ang x 0 = (1, -1000000000000000000) := by simp [ang, up, av, h2]
        have n0 : ((-0 : Int) == 0) = true := by decide
        simp only [v_bok,v_berr,v_sok,v_serr,v_nx,v_rt,v_bk,v_ct,v_er,v_ofs,v_var,v_slot_dat,v_slot_own,v_c,v_bin,v_kbin,v_op2,v_pk2,v_un,v_op1,v_pk1,v_peek_dat,v_peek_fr,v_peek_slot,v_pslot_own,v_pslot_dat,v_cnl,v_test,v_ktest,v_andT,v_kand1,v_kand0,v_orT,v_kor1,v_kor0,v_if,v_kif1,v_kif0,v_nil,v_cons,v_kcons,v_kcons2,v_fast,v_kfast,v_all0,v_all1,v_kall,v_kall2,v_force_dat,v_force_fr,v_force_slot,v_fslot_own,v_fslot_dat,v_tup,v_ktup,v_at_ok,v_at_err,v_vB,v_atB,v_vM2,v_vM3,v_pkL,v_peeks0,v_peeks1,v_cons22,v_it_l,v_it_r,v_it_t,v_seq,v_skip,v_ret,v_ret_dat,v_ret_fr,v_ret_slot,v_rslot_own,v_rslot_dat,v_retN,v_ifS,v_kifS1,v_kifS0,v_set,v_put_dat,v_put_fr,v_put_slot,v_kput,v_tgN,v_tgNil,v_tgCons,v_ktg,v_tgT,v_par,v_kpar,v_kpar1,v_kpar2,v_kpar3,v_fix_dat,v_fix_fr,v_fix_slot,v_kfix,v_runF,v_endF_rt,v_endF_nx,v_endF_er,v_runB,v_endB_rt,v_endB_nx,v_add,v_sub,v_mod,v_fdiv,v_neg,v_lt,v_cmp,v_eq,v_ne,v_len_l,v_len_t,v_len_r,v_ixt,v_ixl,v_ixr,v_eq_bb,v_ne_bb,v_mulE_i,v_mulE_t,v_mulE_l,v_subE_i,List.map_cons,List.map_nil,List.length_cons,List.length_nil,List.cons_append,List.nil_append,List.replicate_succ,List.replicate_zero,List.getElem?_cons_zero,List.getElem?_cons_succ,List.set_cons_zero,List.set_cons_succ,Option.map_some,Nat.reduceSub,Nat.reduceAdd,Nat.reduceLT,Nat.reduceLeDiff,bigN, nn_angle, hb2, hc, z00, z11, n0, k3, e]
    · have hb : (y == 0) = false := beq_eq_false_iff_ne.mpr h0
      have hn : (-y == 0) = false := beq_eq_false_iff_ne.mpr (by omega)
      have hp : 0 < -y := by omega
      have f := v_fdiv (k := -x * 1000000000) (l := -y) hp (Int.lt_of_le_of_lt (show -y ≤ 2000 by omega) (by decide))
      have e : ang x y = (1, -(-x * 1000000000 / -y)) := by
        have : up x y = false := by simp [up, h0]; omega
        simp [ang, this, av, show -y ≠ 0 by omega]
      simp only [v_bok,v_berr,v_sok,v_serr,v_nx,v_rt,v_bk,v_ct,v_er,v_ofs,v_var,v_slot_dat,v_slot_own,v_c,v_bin,v_kbin,v_op2,v_pk2,v_un,v_op1,v_pk1,v_peek_dat,v_peek_fr,v_peek_slot,v_pslot_own,v_pslot_dat,v_cnl,v_test,v_ktest,v_andT,v_kand1,v_kand0,v_orT,v_kor1,v_kor0,v_if,v_kif1,v_kif0,v_nil,v_cons,v_kcons,v_kcons2,v_fast,v_kfast,v_all0,v_all1,v_kall,v_kall2,v_force_dat,v_force_fr,v_force_slot,v_fslot_own,v_fslot_dat,v_tup,v_ktup,v_at_ok,v_at_err,v_vB,v_atB,v_vM2,v_vM3,v_pkL,v_peeks0,v_peeks1,v_cons22,v_it_l,v_it_r,v_it_t,v_seq,v_skip,v_ret,v_ret_dat,v_ret_fr,v_ret_slot,v_rslot_own,v_rslot_dat,v_retN,v_ifS,v_kifS1,v_kifS0,v_set,v_put_dat,v_put_fr,v_put_slot,v_kput,v_tgN,v_tgNil,v_tgCons,v_ktg,v_tgT,v_par,v_kpar,v_kpar1,v_kpar2,v_kpar3,v_fix_dat,v_fix_fr,v_fix_slot,v_kfix,v_runF,v_endF_rt,v_endF_nx,v_endF_er,v_runB,v_endB_rt,v_endB_nx,v_add,v_sub,v_mod,v_fdiv,v_neg,v_lt,v_cmp,v_eq,v_ne,v_len_l,v_len_t,v_len_r,v_ixt,v_ixl,v_ixr,v_eq_bb,v_ne_bb,v_mulE_i,v_mulE_t,v_mulE_l,v_subE_i,List.map_cons,List.map_nil,List.length_cons,List.length_nil,List.cons_append,List.nil_append,List.replicate_succ,List.replicate_zero,List.getElem?_cons_zero,List.getElem?_cons_succ,List.set_cons_zero,List.set_cons_succ,Option.map_some,Nat.reduceSub,Nat.reduceAdd,Nat.reduceLT,Nat.reduceLeDiff,bigN, nn_angle, hb, hb2, hn, z11, v_mulE_i k2, f, fd (Int.le_of_lt hp), e]
end Lw
set_option maxHeartbeats 1000000
namespace Lw
open PySem DL
abbrev Key := (Int × Int) × Int
def keyD (k : Key) : D := .tup [.tup [.int k.1.1, .int k.1.2], .int k.2]
def klt (k l : Key) : Prop := k.1.1 < l.1.1 ∨ (k.1.1 = l.1.1 ∧ (k.1.2 < l.1.2 ∨ (k.1.2 = l.1.2 ∧ k.2 < l.2)))
instance (k l : Key) : Decidable (klt k l) := by unfold klt; infer_instance
def encK (k : Key) : PyData := .tuple [.tuple [.int k.1.1, .int k.1.2], .int k.2]
theorem py_key (k : Key) : pyD (keyD k) = some (encK k) := by simp [keyD, encK, pyD, pyDs]
theorem pyE_key (k : Key) : pyE (keyD k) = encK k := pyE_some (py_key k)
theorem alike_key (k l : Key) : PySem.W.alike (encK k) (encK l) = true := by simp [encK, PySem.W.alike, PySem.W.alikeAll]
theorem depth_key (k : Key) : (encK k).depth ≤ 2 := by simp [encK, PyData.depth, PyData.depthAll]
theorem lt_key (k l : Key) : PySem.W.dataLt (encK k) (encK l) = decide (klt k l) := by
  unfold encK
  rw [PySem.W.dataLt_pair (by simp [PySem.W.alike, PySem.W.alikeAll]) (by simp [PySem.W.alike]), PySem.W.dataLt_ii, PySem.W.dataLt_int]
  simp only [PyData.eqv, PyData.eqvAll, Bool.and_true, Bool.and_eq_true_iff, beq_iff_eq]
  unfold klt
  by_cases h1 : k.1.1 = l.1.1
  · by_cases h2 : k.1.2 = l.1.2
    · by_cases h3 : k.2 = l.2 <;> simp [h1, h2, h3]
    · simp [h1, h2]
  · simp [h1]
theorem ord_key (k l : Key) : ordD (keyD k) (keyD l) = !decide (klt l k) := by
  unfold ordD
  show (!PySem.W.dataLt (pyE (keyD l)) (pyE (keyD k))) = _
  rw [pyE_key, pyE_key, lt_key]
theorem keys_ok (L : List Key) : sortOk (L.map keyD) = true := by
  unfold sortOk
  rw [Bool.and_eq_true_iff, Bool.and_eq_true_iff, Bool.or_eq_true_iff]
  refine ⟨List.all_eq_true.mpr fun d hd => ?_, List.all_eq_true.mpr fun d hd => List.all_eq_true.mpr fun e he => ?_, .inl (List.all_eq_true.mpr fun d hd => ?_)⟩
  · obtain ⟨p, _, rfl⟩ := List.mem_map.mp hd
    have := depth_key p
    rw [py_key, pyE_key, decide_eq_true (by omega)]
    rfl
  · obtain ⟨p, _, rfl⟩ := List.mem_map.mp hd
    obtain ⟨q, _, rfl⟩ := List.mem_map.mp he
    rw [pyE_key, pyE_key]
    exact alike_key p q
  · obtain ⟨p, _, rfl⟩ := List.mem_map.mp hd
    rw [pyE_key]
    rfl
def kc (c p : Pt) : Key := (ang (p.1 - c.1) (p.2 - c.2), dist c p)
def kle (c p q : Pt) : Bool := !decide (klt (kc c q) (kc c p))
theorem sort_by (c : Pt) (P : List Pt) : sortByE (wk P) (P.map fun p => keyD (kc c p)) = some (.fr (.lst (wk (P.mergeSort (kle c))))) := by
  have ok : sortOk (P.map fun p => keyD (kc c p)) = true := by
    have := keys_ok (P.map (kc c))
    rwa [List.map_map] at this
  unfold sortByE
  rw [if_pos ⟨ok, by unfold wk; rw [List.length_map, List.length_map]⟩]
  unfold byKeys wk
  rw [List.zip_map', ← List.map_mergeSort (r := kle c) (s := fun p q : D × D => ordD p.2 q.2) (f := fun p => (pt p, keyD (kc c p))) (l := P) (fun _ _ _ _ => (ord_key _ _).symm), List.map_map]
  rfl
theorem fl_lt {x y u v : Int} (hy : 0 < y ∧ y ≤ 2000) (hv : 0 < v ∧ v ≤ 2000) (h : 0 < x * v - y * u) : u * 1000000000 / v < x * 1000000000 / y := by
  generalize hq : u * 1000000000 / v = q
  have h1 : q * v ≤ u * 1000000000 := by rw [← hq]; exact Int.ediv_mul_le _ (by omega)
  have m : y * v ≤ 4000000 := (mul_b (x := y) (y := v) (by omega) (by omega)).2
  have h2 : (q * v) * y ≤ (u * 1000000000) * y := Int.mul_le_mul_of_nonneg_right h1 (by omega)
  have h3 : ((q + 1) * y) * v ≤ (x * 1000000000) * v := by
    have e1 : ((q + 1) * y) * v = (q * v) * y + y * v := by grind
    have e2 : (u * 1000000000) * y = (y * u) * 1000000000 := by grind
    have e3 : (x * 1000000000) * v = (x * v) * 1000000000 := by grind
    rw [e1, e3]
    rw [e2] at h2
    generalize x * v = a at *
    generalize y * u = b at *
    generalize (q * v) * y = z at *
    generalize y * v = w at *
    omega
  have h4 := Int.le_of_mul_le_mul_right h3 hv.1
  have h5 : q + 1 ≤ x * 1000000000 / y := Int.le_ediv_of_mul_le hy.1 h4
  omega
theorem fl_eq {x y u v : Int} (hy : 0 < y) (hv : 0 < v) (h : x * v - y * u = 0) : u * 1000000000 / v = x * 1000000000 / y := by
  have e : (u * 1000000000) * y = (x * 1000000000) * v := by grind
  have e1 : u * 1000000000 / v = (u * 1000000000 * y) / (v * y) := (Int.mul_ediv_mul_of_pos_left _ _ hy).symm
  have e2 : x * 1000000000 / y = (x * 1000000000 * v) / (y * v) := (Int.mul_ediv_mul_of_pos_left _ _ hv).symm
  rw [e1, e2, e, Int.mul_comm v y]
def Up (x y : Int) : Prop := y > 0 ∨ (y = 0 ∧ x > 0)
theorem up_iff {x y : Int} : up x y = true ↔ Up x y := by simp [up, Up]
theorem fl_ge {u v : Int} (hu : -2000 ≤ u ∧ u ≤ 2000) (hv : 0 < v) : u * 1000000000 / v ≤ 2000000000000 := by
  have : u * 1000000000 / v ≤ 2000000000000 / v := Int.ediv_le_ediv hv (by omega)
  have h2 : 2000000000000 / v ≤ 2000000000000 := Int.ediv_le_self _ (by decide)
  omega
theorem av_cmp {x y u v : Int} (h : Up x y) (h' : Up u v) (hx : -2000 ≤ x ∧ x ≤ 2000) (hy : y ≤ 2000) (hu : -2000 ≤ u ∧ u ≤ 2000) (hv : v ≤ 2000) :
    (0 < x * v - y * u → av x y < av u v) ∧ (x * v - y * u = 0 → av x y = av u v) := by
  have key : ∀ {x y u v : Int}, Up x y → Up u v → (-2000 ≤ x ∧ x ≤ 2000) → y ≤ 2000 → (-2000 ≤ u ∧ u ≤ 2000) → v ≤ 2000 → 0 < x * v - y * u → av x y < av u v := by
    intro x y u v h h' hx hy hu hv hd
    unfold av
    rcases h with h | ⟨h, h0⟩
    · rcases h' with h' | ⟨h', h0'⟩
      · rw [if_neg (by omega), if_neg (by omega)]
        have := fl_lt (x := x) (y := y) (u := u) (v := v) ⟨h, hy⟩ ⟨h', hv⟩ hd
        omega
      · exfalso
        subst h'
        have : 0 < y * u := Int.mul_pos h h0'
        omega
    · subst h
      rcases h' with h' | ⟨h', h0'⟩
      · rw [if_pos rfl, if_neg (by omega)]
        have := fl_ge hu h'
        omega
      · exfalso
        subst h'
        omega
  refine ⟨key h h' hx hy hu hv, fun hd => ?_⟩
  unfold av
  rcases h with h | ⟨h, h0⟩
  · rcases h' with h' | ⟨h', h0'⟩
    · rw [if_neg (by omega), if_neg (by omega), fl_eq h h' hd]
    · exfalso
      subst h'
      have : 0 < y * u := Int.mul_pos h h0'
      omega
  · subst h
    rcases h' with h' | ⟨h', h0'⟩
    · exfalso
      have : 0 < x * v := Int.mul_pos h0 h'
      omega
    · rw [if_pos rfl, if_pos h']
end Lw
set_option maxHeartbeats 1000000
namespace Lw
open PySem DL
theorem ang_up {x y : Int} (h : Up x y) : ang x y = (0, av x y) := by unfold ang; rw [if_pos (up_iff.mpr h)]
theorem ang_dn {x y : Int} (h : ¬ Up x y) : ang x y = (1, av (-x) (-y)) := by unfold ang; rw [if_neg (fun z => h (up_iff.mp z))]
theorem up_neg {x y : Int} (h : ¬ Up x y) (n : x ≠ 0 ∨ y ≠ 0) : Up (-x) (-y) := by unfold Up at *; omega
theorem ang_cmp {x y u v : Int} (n : x ≠ 0 ∨ y ≠ 0) (n' : u ≠ 0 ∨ v ≠ 0) (hx : -2000 ≤ x ∧ x ≤ 2000) (hy : -2000 ≤ y ∧ y ≤ 2000) (hu : -2000 ≤ u ∧ u ≤ 2000) (hv : -2000 ≤ v ∧ v ≤ 2000) (h : (ang x y).1 = (ang u v).1) :
    (0 < x * v - y * u → (ang x y).2 < (ang u v).2) ∧ (x * v - y * u = 0 → (ang x y).2 = (ang u v).2) := by
  by_cases c : Up x y
  · by_cases c' : Up u v
    · rw [ang_up c, ang_up c']
      exact av_cmp c c' hx hy.2 hu hv.2
    · rw [ang_up c, ang_dn c'] at h
      exact absurd h (by simp)
  · by_cases c' : Up u v
    · rw [ang_dn c, ang_up c'] at h
      exact absurd h (by simp)
    · rw [ang_dn c, ang_dn c']
      have e : x * v - y * u = -x * -v - -y * -u := by grind
      rw [e]
      exact av_cmp (up_neg c n) (up_neg c' n') (by omega) (by omega) (by omega) (by omega)
theorem sq_eq {a b : Int} (ha : 0 < a) (hb : 0 < b) (h : a * a = b * b) : a = b := by
  have e : (a - b) * (a + b) = 0 := by grind
  rcases Int.mul_eq_zero.mp e with h | h <;> omega
theorem same_dir {x y u v : Int} (c : Up x y) (c' : Up u v) (h : x * v - y * u = 0) (q : x * x + y * y = u * u + v * v) : x = u ∧ y = v := by
  rcases c with c | ⟨rfl, c0⟩
  · rcases c' with c' | ⟨rfl, c0'⟩
    · have hN : 0 < u * u + v * v := by
        have h1 : 0 ≤ u * u := by rw [← Int.natAbs_mul_self' u, ← Int.natCast_mul]; exact Int.natCast_nonneg _
        have h2 : 0 < v * v := Int.mul_pos c' c'
        omega
      have e1 : (u * u + v * v) * (y * y) = (u * u + v * v) * (v * v) := by
        have e0 : x * v = y * u := by omega
        have : (x * v) * (x * v) = (y * u) * (y * u) := by rw [e0]
        grind
      have e2 := Int.eq_of_mul_eq_mul_left (by omega) e1
      have e3 := sq_eq c c' e2
      subst e3
      refine ⟨?_, rfl⟩
      have : y * x = y * u := by grind
      exact Int.eq_of_mul_eq_mul_left (by omega) this
    · exfalso
      have : 0 < y * u := Int.mul_pos c c0'
      omega
  · rcases c' with c' | ⟨rfl, c0'⟩
    · exfalso
      have : 0 < x * v := Int.mul_pos c0 c'
      omega
    · exact ⟨sq_eq c0 c0' (by omega), rfl⟩
theorem dist_xy (c p : Pt) : dist c p = (p.1 - c.1) * (p.1 - c.1) + (p.2 - c.2) * (p.2 - c.2) := by unfold dist; grind
structure Aw (c p : Pt) : Prop where
  sc : Sm c
  sp : Sm p
  ne : p ≠ c
theorem Aw.n {c p : Pt} (h : Aw c p) : p.1 - c.1 ≠ 0 ∨ p.2 - c.2 ≠ 0 := by
  by_cases e1 : p.1 - c.1 = 0
  · by_cases e2 : p.2 - c.2 = 0
    · exact absurd (Prod.ext (by omega) (by omega)) h.ne
    · exact .inr e2
  · exact .inl e1
theorem Aw.b {c p : Pt} (h : Aw c p) : (-2000 ≤ p.1 - c.1 ∧ p.1 - c.1 ≤ 2000) ∧ (-2000 ≤ p.2 - c.2 ∧ p.2 - c.2 ≤ 2000) := by
  obtain ⟨a1, a2, a3, a4⟩ := h.sc
  obtain ⟨b1, b2, b3, b4⟩ := h.sp
  omega
theorem kc_cmp {c p q : Pt} (hp : Aw c p) (hq : Aw c q) (h : (kc c p).1.1 = (kc c q).1.1) : (0 < det c p q → (kc c p).1.2 < (kc c q).1.2) ∧ (det c p q = 0 → (kc c p).1.2 = (kc c q).1.2) :=
  ang_cmp hp.n hq.n hp.b.1 hp.b.2 hq.b.1 hq.b.2 h
theorem det_sw (c p q : Pt) : det c q p = -det c p q := by unfold det; grind
theorem kc_inj {c p q : Pt} (hp : Aw c p) (hq : Aw c q) (h : kc c p = kc c q) : p = q := by
  have h1 : (kc c p).1.1 = (kc c q).1.1 := by rw [h]
  have h2 : (kc c p).1.2 = (kc c q).1.2 := by rw [h]
  have h3 : dist c p = dist c q := show (kc c p).2 = (kc c q).2 by rw [h]
  have d0 : det c p q = 0 := by
    have a1 := (kc_cmp hp hq h1).1
    have a2 := (kc_cmp hq hp h1.symm).1
    rw [det_sw c p q] at a2
    by_cases z1 : 0 < det c p q
    · have := a1 z1; omega
    · by_cases z2 : 0 < -det c p q
      · have := a2 z2; omega
      · omega
  rw [dist_xy, dist_xy] at h3
  have key : p.1 - c.1 = q.1 - c.1 ∧ p.2 - c.2 = q.2 - c.2 := by
    have d1 : (p.1 - c.1) * (q.2 - c.2) - (p.2 - c.2) * (q.1 - c.1) = 0 := d0
    have h1' : (ang (p.1 - c.1) (p.2 - c.2)).1 = (ang (q.1 - c.1) (q.2 - c.2)).1 := h1
    have n1 := hp.n
    have n2 := hq.n
    generalize p.1 - c.1 = x at *
    generalize p.2 - c.2 = y at *
    generalize q.1 - c.1 = u at *
    generalize q.2 - c.2 = v at *
    by_cases z : Up x y
    · by_cases z' : Up u v
      · exact same_dir z z' d1 h3
      · rw [ang_up z, ang_dn z'] at h1'
        exact absurd h1' (by simp)
    · by_cases z' : Up u v
      · rw [ang_dn z, ang_up z'] at h1'
        exact absurd h1' (by simp)
      · have := same_dir (up_neg z n1) (up_neg z' n2) (by grind) (by grind)
        omega
  exact Prod.ext (by omega) (by omega)
def ahd (c p q : Pt) : Bool := decide (klt (kc c p) (kc c q))
theorem ahd_eq {c p q : Pt} (hp : Aw c p) (hq : Aw c q) (h : (kc c p).1.1 = (kc c q).1.1) : ahd c p q = (decide (det c p q > 0) || ((det c p q == 0) && decide (dist c p < dist c q))) := by
  have a1 := kc_cmp hp hq h
  have a2 := kc_cmp hq hp h.symm
  rw [det_sw c p q] at a2
  have e : ∀ {b : Bool}, (klt (kc c p) (kc c q) ↔ b = true) → ahd c p q = b := fun {b} z => by
    unfold ahd
    rw [Bool.eq_iff_iff, decide_eq_true_eq]; exact z
  apply e
  simp only [Bool.or_eq_true_iff, Bool.and_eq_true_iff, decide_eq_true_eq, beq_iff_eq]
  have d : (kc c p).2 = dist c p := rfl
  have d' : (kc c q).2 = dist c q := rfl
  unfold klt
  rw [d, d']
  by_cases z1 : 0 < det c p q
  · have := a1.1 z1
    constructor
    · intro _; exact .inl z1
    · intro _; exact .inr ⟨h, .inl this⟩
  · by_cases z2 : det c p q = 0
    · have := a1.2 z2
      constructor
      · intro w
        rcases w with w | ⟨_, w | w⟩
        · omega
        · omega
        · exact .inr ⟨z2, w.2⟩
      · intro w
        rcases w with w | w
        · omega
        · exact .inr ⟨h, .inr ⟨this, w.2⟩⟩
    · have := a2.1 (by omega)
      constructor
      · intro w
        rcases w with w | ⟨_, w | w⟩ <;> omega
      · intro w
        rcases w with w | w <;> omega
theorem ahd_ne {c p q : Pt} (h : (kc c p).1.1 ≠ (kc c q).1.1) : ahd c p q = decide ((kc c p).1.1 < (kc c q).1.1) := by
  unfold ahd klt
  simp [h]
theorem klt_ir (k : Key) : ¬ klt k k := by unfold klt; omega
theorem klt_tr {k l m : Key} (h : klt k l) (h' : klt l m) : klt k m := by unfold klt at *; omega
theorem klt_nt {k l m : Key} (h : ¬ klt l k) (h' : ¬ klt m l) : ¬ klt m k := by unfold klt at *; omega
theorem klt_tot {k l : Key} (h : ¬ klt k l) (h' : ¬ klt l k) : k = l := by
  obtain ⟨⟨a, b⟩, e⟩ := k
  obtain ⟨⟨a', b'⟩, e'⟩ := l
  unfold klt at *
  dsimp only at *
  have h1 : a = a' := by omega
  have h2 : b = b' := by omega
  have h3 : e = e' := by omega
  rw [h1, h2, h3]
def putIn (c : Pt) (l : List Pt) (p : Pt) : List Pt := l.take (l.filter fun o => ahd c o p).length ++ [p] ++ l.drop (l.filter fun o => ahd c o p).length
theorem put_perm (c : Pt) (l : List Pt) (p : Pt) : (putIn c l p).Perm (p :: l) := by
  unfold putIn
  generalize (l.filter fun o => ahd c o p).length = k
  rw [List.append_assoc]
  refine (List.perm_middle (l₁ := l.take k) (l₂ := l.drop k)).trans ?_
  rw [List.take_append_drop]
def Rl (c a b : Pt) : Prop := ¬ klt (kc c b) (kc c a)
theorem put_srt {c p : Pt} : ∀ {l : List Pt}, l.Pairwise (Rl c) → (putIn c l p).Pairwise (Rl c)
  | [], _ => by simp [putIn]
  | a :: l, h => by
    obtain ⟨h1, h2⟩ := List.pairwise_cons.mp h
    have ih := put_srt (p := p) h2
    cases q : ahd c a p with
    | true =>
      have e : putIn c (a :: l) p = a :: putIn c l p := by
        unfold putIn
        rw [List.filter_cons, q, if_pos rfl, List.length_cons, List.take_succ_cons, List.drop_succ_cons]
        rfl
      rw [e, List.pairwise_cons]
      refine ⟨fun b hb => ?_, ih⟩
      rcases List.mem_cons.mp ((put_perm c l p).mem_iff.mp hb) with z | z
      · rw [z]
        have := of_decide_eq_true q
        exact fun w => klt_ir _ (klt_tr this w)
      · exact h1 b z
    | false =>
      have q' : ¬ klt (kc c a) (kc c p) := of_decide_eq_false q
      have hn : ∀ b ∈ a :: l, ¬ klt (kc c b) (kc c p) := fun b hb => by
        rcases List.mem_cons.mp hb with z | z
        · rw [z]; exact q'
        · exact klt_nt q' (h1 b z)
      have ef : (a :: l).filter (fun o => ahd c o p) = [] := List.filter_eq_nil_iff.mpr fun b hb => by
        unfold ahd
        rw [decide_eq_false (hn b hb)]
        decide
      have e : putIn c (a :: l) p = p :: a :: l := by
        unfold putIn
        rw [ef]; rfl
      rw [e, List.pairwise_cons]
      exact ⟨fun b hb => hn b hb, h⟩
def rndL (c : Pt) (P : List Pt) : List Pt := P.foldl (putIn c) []
theorem rnd_fold (c : Pt) : ∀ (P l : List Pt), l.Pairwise (Rl c) → (P.foldl (putIn c) l).Pairwise (Rl c) ∧ (P.foldl (putIn c) l).Perm (P ++ l)
  | [], l, h => ⟨h, List.Perm.refl _⟩
  | p :: P, l, h => by
    obtain ⟨h1, h2⟩ := rnd_fold c P (putIn c l p) (put_srt h)
    exact ⟨h1, h2.trans (((put_perm c l p).append_left P).trans List.perm_middle)⟩
theorem rnd_eq {c : Pt} {P : List Pt} (h : ∀ p ∈ P, Aw c p) : P.mergeSort (kle c) = rndL c P := by
  obtain ⟨h1, h2⟩ := rnd_fold c P [] List.Pairwise.nil
  rw [List.append_nil] at h2
  have m1 : (P.mergeSort (kle c)).Pairwise (fun a b => kle c a b = true) := List.pairwise_mergeSort (fun a b d q r => by
    unfold kle at *
    simp only [Bool.not_eq_true', decide_eq_false_iff_not] at *
    exact klt_nt q r) (fun a b => by
    unfold kle
    rw [Bool.or_eq_true_iff]
    simp only [Bool.not_eq_true', decide_eq_false_iff_not]
    by_cases z : klt (kc c b) (kc c a)
    · exact .inr fun w => klt_ir _ (klt_tr z w)
    · exact .inl z) P
  have m2 : (P.mergeSort (kle c)).Pairwise (Rl c) := m1.imp fun {a b} z => by
    unfold kle at z
    simp only [Bool.not_eq_true', decide_eq_false_iff_not] at z
    exact z
  have p1 := List.mergeSort_perm P (kle c)
  exact List.Perm.eq_of_pairwise (le := Rl c) (fun a b ha hb q r => kc_inj (h a (p1.mem_iff.mp ha)) (h b (h2.mem_iff.mp hb)) (klt_tot r q)) m2 h1 (p1.trans h2.symm)
end Lw
set_option maxHeartbeats 1000000
namespace Lw
open PySem DL
theorem e_law_half {c p : Pt} : F_law_half [pt c, pt p] = .ok (.dat (.int (kc c p).1.1)) := by
  have h : (kc c p).1.1 = if up (p.1 - c.1) (p.2 - c.2) = true then 0 else 1 := by
    unfold kc ang
    dsimp only
    split <;> rfl
  rw [h]
  unfold F_law_half M_law_half pt up
  generalize hx : p.1 - c.1 = x
  generalize hy : p.2 - c.2 = y
  cases h1 : decide (y > 0)
  · cases h2 : (y == 0)
    · simp only [v_bok,v_berr,v_sok,v_serr,v_nx,v_rt,v_bk,v_ct,v_er,v_ofs,v_var,v_slot_dat,v_slot_own,v_c,v_bin,v_kbin,v_op2,v_pk2,v_un,v_op1,v_pk1,v_peek_dat,v_peek_fr,v_peek_slot,v_pslot_own,v_pslot_dat,v_cnl,v_test,v_ktest,v_and,v_kAnd1,v_kAnd0,v_or,v_kOr1,v_kOr0,v_nil,v_cons,v_kcons,v_kcons2,v_all0,v_all1,v_kall,v_kall2,v_force_dat,v_force_fr,v_force_slot,v_fslot_own,v_fslot_dat,v_at_ok,v_at_err,v_vB,v_atB,v_vM2,v_vM3,v_cb,v_kcb,v_pkL,v_peeks0,v_peeks1,v_cons22,v_it_l,v_it_r,v_it_t,v_seq,v_ret,v_ret_dat,v_ret_fr,v_ret_slot,v_rslot_own,v_rslot_dat,v_retN,v_put_dat,v_put_fr,v_put_slot,v_kput,v_tgN,v_tgNil,v_tgCons,v_ktg,v_tgT,v_par,v_kpar,v_kpar1,v_kpar2,v_kpar3,v_fix_dat,v_fix_fr,v_fix_slot,v_kfix,v_runF,v_endF_rt,v_endF_nx,v_endF_er,v_runB,v_endB_rt,v_endB_nx,v_add,v_sub,v_mod,v_neg,v_lt,v_cmp,v_eq,v_ne,v_int1,v_len_l,v_len_t,v_len_r,v_ixt,v_ixl,v_ixr,v_eq_bb,v_ne_bb,v_subE_i,v_subE_b,v_int1_1,v_int1_0,List.map_cons,List.map_nil,List.length_cons,List.length_nil,List.cons_append,List.nil_append,List.replicate_succ,List.replicate_zero,List.getElem?_cons_zero,List.getElem?_cons_succ,List.set_cons_zero,List.set_cons_succ,Option.map_some,Nat.reduceSub,Nat.reduceAdd,Nat.reduceLT,Nat.reduceLeDiff,bigN, nn__law_half, at0, at1, hx, hy, h1, h2, v_int1_0]
      rfl
    · cases h3 : decide (x > 0)
      · simp only [v_bok,v_berr,v_sok,v_serr,v_nx,v_rt,v_bk,v_ct,v_er,v_ofs,v_var,v_slot_dat,v_slot_own,v_c,v_bin,v_kbin,v_op2,v_pk2,v_un,v_op1,v_pk1,v_peek_dat,v_peek_fr,v_peek_slot,v_pslot_own,v_pslot_dat,v_cnl,v_test,v_ktest,v_and,v_kAnd1,v_kAnd0,v_or,v_kOr1,v_kOr0,v_nil,v_cons,v_kcons,v_kcons2,v_all0,v_all1,v_kall,v_kall2,v_force_dat,v_force_fr,v_force_slot,v_fslot_own,v_fslot_dat,v_at_ok,v_at_err,v_vB,v_atB,v_vM2,v_vM3,v_cb,v_kcb,v_pkL,v_peeks0,v_peeks1,v_cons22,v_it_l,v_it_r,v_it_t,v_seq,v_ret,v_ret_dat,v_ret_fr,v_ret_slot,v_rslot_own,v_rslot_dat,v_retN,v_put_dat,v_put_fr,v_put_slot,v_kput,v_tgN,v_tgNil,v_tgCons,v_ktg,v_tgT,v_par,v_kpar,v_kpar1,v_kpar2,v_kpar3,v_fix_dat,v_fix_fr,v_fix_slot,v_kfix,v_runF,v_endF_rt,v_endF_nx,v_endF_er,v_runB,v_endB_rt,v_endB_nx,v_add,v_sub,v_mod,v_neg,v_lt,v_cmp,v_eq,v_ne,v_int1,v_len_l,v_len_t,v_len_r,v_ixt,v_ixl,v_ixr,v_eq_bb,v_ne_bb,v_subE_i,v_subE_b,v_int1_1,v_int1_0,List.map_cons,List.map_nil,List.length_cons,List.length_nil,List.cons_append,List.nil_append,List.replicate_succ,List.replicate_zero,List.getElem?_cons_zero,List.getElem?_cons_succ,List.set_cons_zero,List.set_cons_succ,Option.map_some,Nat.reduceSub,Nat.reduceAdd,Nat.reduceLT,Nat.reduceLeDiff,bigN, nn__law_half, at0, at1, hx, hy, h1, h2, h3, v_int1_0]
        rfl
      · simp only [v_bok,v_berr,v_sok,v_serr,v_nx,v_rt,v_bk,v_ct,v_er,v_ofs,v_var,v_slot_dat,v_slot_own,v_c,v_bin,v_kbin,v_op2,v_pk2,v_un,v_op1,v_pk1,v_peek_dat,v_peek_fr,v_peek_slot,v_pslot_own,v_pslot_dat,v_cnl,v_test,v_ktest,v_and,v_kAnd1,v_kAnd0,v_or,v_kOr1,v_kOr0,v_nil,v_cons,v_kcons,v_kcons2,v_all0,v_all1,v_kall,v_kall2,v_force_dat,v_force_fr,v_force_slot,v_fslot_own,v_fslot_dat,v_at_ok,v_at_err,v_vB,v_atB,v_vM2,v_vM3,v_cb,v_kcb,v_pkL,v_peeks0,v_peeks1,v_cons22,v_it_l,v_it_r,v_it_t,v_seq,v_ret,v_ret_dat,v_ret_fr,v_ret_slot,v_rslot_own,v_rslot_dat,v_retN,v_put_dat,v_put_fr,v_put_slot,v_kput,v_tgN,v_tgNil,v_tgCons,v_ktg,v_tgT,v_par,v_kpar,v_kpar1,v_kpar2,v_kpar3,v_fix_dat,v_fix_fr,v_fix_slot,v_kfix,v_runF,v_endF_rt,v_endF_nx,v_endF_er,v_runB,v_endB_rt,v_endB_nx,v_add,v_sub,v_mod,v_neg,v_lt,v_cmp,v_eq,v_ne,v_int1,v_len_l,v_len_t,v_len_r,v_ixt,v_ixl,v_ixr,v_eq_bb,v_ne_bb,v_subE_i,v_subE_b,v_int1_1,v_int1_0,List.map_cons,List.map_nil,List.length_cons,List.length_nil,List.cons_append,List.nil_append,List.replicate_succ,List.replicate_zero,List.getElem?_cons_zero,List.getElem?_cons_succ,List.set_cons_zero,List.set_cons_succ,Option.map_some,Nat.reduceSub,Nat.reduceAdd,Nat.reduceLT,Nat.reduceLeDiff,bigN, nn__law_half, at0, at1, hx, hy, h1, h2, h3, v_int1_1]
        rfl
  · simp only [v_bok,v_berr,v_sok,v_serr,v_nx,v_rt,v_bk,v_ct,v_er,v_ofs,v_var,v_slot_dat,v_slot_own,v_c,v_bin,v_kbin,v_op2,v_pk2,v_un,v_op1,v_pk1,v_peek_dat,v_peek_fr,v_peek_slot,v_pslot_own,v_pslot_dat,v_cnl,v_test,v_ktest,v_and,v_kAnd1,v_kAnd0,v_or,v_kOr1,v_kOr0,v_nil,v_cons,v_kcons,v_kcons2,v_all0,v_all1,v_kall,v_kall2,v_force_dat,v_force_fr,v_force_slot,v_fslot_own,v_fslot_dat,v_at_ok,v_at_err,v_vB,v_atB,v_vM2,v_vM3,v_cb,v_kcb,v_pkL,v_peeks0,v_peeks1,v_cons22,v_it_l,v_it_r,v_it_t,v_seq,v_ret,v_ret_dat,v_ret_fr,v_ret_slot,v_rslot_own,v_rslot_dat,v_retN,v_put_dat,v_put_fr,v_put_slot,v_kput,v_tgN,v_tgNil,v_tgCons,v_ktg,v_tgT,v_par,v_kpar,v_kpar1,v_kpar2,v_kpar3,v_fix_dat,v_fix_fr,v_fix_slot,v_kfix,v_runF,v_endF_rt,v_endF_nx,v_endF_er,v_runB,v_endB_rt,v_endB_nx,v_add,v_sub,v_mod,v_neg,v_lt,v_cmp,v_eq,v_ne,v_int1,v_len_l,v_len_t,v_len_r,v_ixt,v_ixl,v_ixr,v_eq_bb,v_ne_bb,v_subE_i,v_subE_b,v_int1_1,v_int1_0,List.map_cons,List.map_nil,List.length_cons,List.length_nil,List.cons_append,List.nil_append,List.replicate_succ,List.replicate_zero,List.getElem?_cons_zero,List.getElem?_cons_succ,List.set_cons_zero,List.set_cons_succ,Option.map_some,Nat.reduceSub,Nat.reduceAdd,Nat.reduceLT,Nat.reduceLeDiff,bigN, nn__law_half, at0, at1, hx, hy, h1, v_int1_1]
    rfl
theorem far_comp {c p q : Pt} {x1 x2 x3 x4 : SV} (hp : Aw c p) (hq : Aw c q) : compL [5] (tgN 5) mYes C_law_is_ahead_0 [pt p, pt q] [] [.dat (pt c), x1, x2, x3, x4, .emp] = .ok [.int (dist c p), .int (dist c q)] [.dat (pt c), x1, x2, x3, x4, .emp] := by
  refine comp_a0 (l := [p, q]) pt (fun z => .int (dist c z)) (show 2 ≤ 900000 by decide) (fun s hs => ?_)
  have hs2 : Aw c s := by
    simp only [List.mem_cons, List.not_mem_nil, or_false] at hs
    rcases hs with rfl | rfl
    · exact hp
    · exact hq
  obtain ⟨b1, b2⟩ := hs2.b
  have k1 : L2.CMul (s.1 - c.1) (s.1 - c.1) := cL (by omega) (by omega)
  have k2 : L2.CMul (s.2 - c.2) (s.2 - c.2) := cL (by omega) (by omega)
  refine ⟨[.dat (pt c), x1, x2, x3, x4, .dat (pt s)], rfl, rfl, ?_⟩
  rw [dist_xy]
  unfold pt
  simp only [v_bok,v_berr,v_sok,v_serr,v_nx,v_rt,v_bk,v_ct,v_er,v_ofs,v_var,v_slot_dat,v_slot_own,v_c,v_bin,v_kbin,v_op2,v_pk2,v_un,v_op1,v_pk1,v_peek_dat,v_peek_fr,v_peek_slot,v_pslot_own,v_pslot_dat,v_cnl,v_test,v_ktest,v_nil,v_cons,v_kcons,v_kcons2,v_all0,v_all1,v_kall,v_kall2,v_force_dat,v_force_fr,v_force_slot,v_fslot_own,v_fslot_dat,v_at_ok,v_at_err,v_vB,v_atB,v_vM2,v_vM3,v_pkL,v_peeks0,v_peeks1,v_cons22,v_it_l,v_it_r,v_it_t,v_yes,v_ret_dat,v_ret_fr,v_ret_slot,v_rslot_own,v_rslot_dat,v_retN,v_put_dat,v_put_fr,v_put_slot,v_kput,v_tgN,v_tgNil,v_tgCons,v_ktg,v_tgT,v_runF,v_endF_rt,v_endF_nx,v_endF_er,v_runB,v_endB_rt,v_endB_nx,v_add,v_sub,v_mod,v_neg,v_lt,v_cmp,v_eq,v_ne,v_len_l,v_len_t,v_len_r,v_ixt,v_ixl,v_ixr,v_eq_bb,v_ne_bb,v_mulE_i,v_mulE_t,v_mulE_l,v_subE_i,v_subE_b,v_add_l,v_add_t,List.map_cons,List.map_nil,List.length_cons,List.length_nil,List.cons_append,List.nil_append,List.replicate_succ,List.replicate_zero,List.getElem?_cons_zero,List.getElem?_cons_succ,List.set_cons_zero,List.set_cons_succ,Option.map_some,Nat.reduceSub,Nat.reduceAdd,Nat.reduceLT,Nat.reduceLeDiff,bigN, C_law_is_ahead_0, at0, at1, v_mulE_i k1, v_mulE_i k2]
theorem e_law_is_ahead {c p q : Pt} (hp : Aw c p) (hq : Aw c q) : F_law_is_ahead [pt c, pt p, pt q] = .ok (.dat (.bl (ahd c p q))) := by
  have f1 := e_law_half (c := c) (p := p)
  have f2 := e_law_half (c := c) (p := q)
  have ft := e_law_turn (c := q) hp.sc hp.sp
  unfold F_law_is_ahead M_law_is_ahead
  by_cases h : (kc c p).1.1 = (kc c q).1.1
  · have hb : ((kc c p).1.1 == (kc c q).1.1) = true := beq_iff_eq.mpr h
    rw [ahd_eq hp hq h]
    have r := fun x1 x2 x3 x4 => far_comp (x1 := x1) (x2 := x2) (x3 := x3) (x4 := x4) hp hq
    cases h1 : decide (det c p q > 0)
    · cases h2 : (det c p q == 0)
      · simp only [v_bok,v_berr,v_sok,v_serr,v_nx,v_rt,v_bk,v_ct,v_er,v_ofs,v_var,v_slot_dat,v_slot_own,v_c,v_bin,v_kbin,v_op2,v_pk2,v_un,v_op1,v_pk1,v_peek_dat,v_peek_fr,v_peek_slot,v_pslot_own,v_pslot_dat,v_cnl,v_test,v_ktest,v_and,v_kAnd1,v_kAnd0,v_or,v_kOr1,v_kOr0,v_nil,v_cons,v_kcons,v_kcons2,v_fast,v_kfast,v_all0,v_all1,v_kall,v_kall2,v_force_dat,v_force_fr,v_force_slot,v_fslot_own,v_fslot_dat,v_lst,v_klst,v_call,v_callF,v_at_ok,v_at_err,v_vB,v_atB,v_vM2,v_vM3,v_pkL,v_peeks0,v_peeks1,v_cons22,v_iter,v_it_l,v_it_r,v_it_t,v_lc,v_klc,v_klc2,v_yes,v_seq,v_skip,v_ret,v_ret_dat,v_ret_fr,v_ret_slot,v_rslot_own,v_rslot_dat,v_retN,v_ifS,v_kifS1,v_kifS0,v_set,v_put_dat,v_put_fr,v_put_slot,v_kput,v_tgN,v_tgNil,v_tgCons,v_ktg,v_tgT,v_runF,v_endF_rt,v_endF_nx,v_endF_er,v_runB,v_endB_rt,v_endB_nx,v_add,v_sub,v_mod,v_neg,v_lt,v_cmp,v_eq,v_ne,v_len_l,v_len_t,v_len_r,v_ixt,v_ixl,v_ixr,v_eq_bb,v_ne_bb,v_subE_i,List.map_cons,List.map_nil,List.length_cons,List.length_nil,List.cons_append,List.nil_append,List.replicate_succ,List.replicate_zero,List.getElem?_cons_zero,List.getElem?_cons_succ,List.set_cons_zero,List.set_cons_succ,Option.map_some,Nat.reduceSub,Nat.reduceAdd,Nat.reduceLT,Nat.reduceLeDiff,bigN, nn__law_is_ahead, f1, f2, ft, hb, h1, h2, r, at0, at1, Bool.not_true]
        rfl
      · simp only [v_bok,v_berr,v_sok,v_serr,v_nx,v_rt,v_bk,v_ct,v_er,v_ofs,v_var,v_slot_dat,v_slot_own,v_c,v_bin,v_kbin,v_op2,v_pk2,v_un,v_op1,v_pk1,v_peek_dat,v_peek_fr,v_peek_slot,v_pslot_own,v_pslot_dat,v_cnl,v_test,v_ktest,v_and,v_kAnd1,v_kAnd0,v_or,v_kOr1,v_kOr0,v_nil,v_cons,v_kcons,v_kcons2,v_fast,v_kfast,v_all0,v_all1,v_kall,v_kall2,v_force_dat,v_force_fr,v_force_slot,v_fslot_own,v_fslot_dat,v_lst,v_klst,v_call,v_callF,v_at_ok,v_at_err,v_vB,v_atB,v_vM2,v_vM3,v_pkL,v_peeks0,v_peeks1,v_cons22,v_iter,v_it_l,v_it_r,v_it_t,v_lc,v_klc,v_klc2,v_yes,v_seq,v_skip,v_ret,v_ret_dat,v_ret_fr,v_ret_slot,v_rslot_own,v_rslot_dat,v_retN,v_ifS,v_kifS1,v_kifS0,v_set,v_put_dat,v_put_fr,v_put_slot,v_kput,v_tgN,v_tgNil,v_tgCons,v_ktg,v_tgT,v_runF,v_endF_rt,v_endF_nx,v_endF_er,v_runB,v_endB_rt,v_endB_nx,v_add,v_sub,v_mod,v_neg,v_lt,v_cmp,v_eq,v_ne,v_len_l,v_len_t,v_len_r,v_ixt,v_ixl,v_ixr,v_eq_bb,v_ne_bb,v_subE_i,List.map_cons,List.map_nil,List.length_cons,List.length_nil,List.cons_append,List.nil_append,List.replicate_succ,List.replicate_zero,List.getElem?_cons_zero,List.getElem?_cons_succ,List.set_cons_zero,List.set_cons_succ,Option.map_some,Nat.reduceSub,Nat.reduceAdd,Nat.reduceLT,Nat.reduceLeDiff,bigN, nn__law_is_ahead, f1, f2, ft, hb, h1, h2, r, at0, at1, Bool.not_true]
        rfl
    · simp only [v_bok,v_berr,v_sok,v_serr,v_nx,v_rt,v_bk,v_ct,v_er,v_ofs,v_var,v_slot_dat,v_slot_own,v_c,v_bin,v_kbin,v_op2,v_pk2,v_un,v_op1,v_pk1,v_peek_dat,v_peek_fr,v_peek_slot,v_pslot_own,v_pslot_dat,v_cnl,v_test,v_ktest,v_and,v_kAnd1,v_kAnd0,v_or,v_kOr1,v_kOr0,v_nil,v_cons,v_kcons,v_kcons2,v_fast,v_kfast,v_all0,v_all1,v_kall,v_kall2,v_force_dat,v_force_fr,v_force_slot,v_fslot_own,v_fslot_dat,v_lst,v_klst,v_call,v_callF,v_at_ok,v_at_err,v_vB,v_atB,v_vM2,v_vM3,v_pkL,v_peeks0,v_peeks1,v_cons22,v_iter,v_it_l,v_it_r,v_it_t,v_lc,v_klc,v_klc2,v_yes,v_seq,v_skip,v_ret,v_ret_dat,v_ret_fr,v_ret_slot,v_rslot_own,v_rslot_dat,v_retN,v_ifS,v_kifS1,v_kifS0,v_set,v_put_dat,v_put_fr,v_put_slot,v_kput,v_tgN,v_tgNil,v_tgCons,v_ktg,v_tgT,v_runF,v_endF_rt,v_endF_nx,v_endF_er,v_runB,v_endB_rt,v_endB_nx,v_add,v_sub,v_mod,v_neg,v_lt,v_cmp,v_eq,v_ne,v_len_l,v_len_t,v_len_r,v_ixt,v_ixl,v_ixr,v_eq_bb,v_ne_bb,v_subE_i,List.map_cons,List.map_nil,List.length_cons,List.length_nil,List.cons_append,List.nil_append,List.replicate_succ,List.replicate_zero,List.getElem?_cons_zero,List.getElem?_cons_succ,List.set_cons_zero,List.set_cons_succ,Option.map_some,Nat.reduceSub,Nat.reduceAdd,Nat.reduceLT,Nat.reduceLeDiff,bigN, nn__law_is_ahead, f1, f2, ft, hb, h1, r, at0, at1, Bool.not_true]
      rfl
  · have hb : ((kc c p).1.1 == (kc c q).1.1) = false := beq_eq_false_iff_ne.mpr h
    rw [ahd_ne h]
    simp only [v_bok,v_berr,v_sok,v_serr,v_nx,v_rt,v_bk,v_ct,v_er,v_ofs,v_var,v_slot_dat,v_slot_own,v_c,v_bin,v_kbin,v_op2,v_pk2,v_un,v_op1,v_pk1,v_peek_dat,v_peek_fr,v_peek_slot,v_pslot_own,v_pslot_dat,v_cnl,v_test,v_ktest,v_and,v_kAnd1,v_kAnd0,v_or,v_kOr1,v_kOr0,v_nil,v_cons,v_kcons,v_kcons2,v_fast,v_kfast,v_all0,v_all1,v_kall,v_kall2,v_force_dat,v_force_fr,v_force_slot,v_fslot_own,v_fslot_dat,v_lst,v_klst,v_call,v_callF,v_at_ok,v_at_err,v_vB,v_atB,v_vM2,v_vM3,v_pkL,v_peeks0,v_peeks1,v_cons22,v_iter,v_it_l,v_it_r,v_it_t,v_lc,v_klc,v_klc2,v_yes,v_seq,v_skip,v_ret,v_ret_dat,v_ret_fr,v_ret_slot,v_rslot_own,v_rslot_dat,v_retN,v_ifS,v_kifS1,v_kifS0,v_set,v_put_dat,v_put_fr,v_put_slot,v_kput,v_tgN,v_tgNil,v_tgCons,v_ktg,v_tgT,v_runF,v_endF_rt,v_endF_nx,v_endF_er,v_runB,v_endB_rt,v_endB_nx,v_add,v_sub,v_mod,v_neg,v_lt,v_cmp,v_eq,v_ne,v_len_l,v_len_t,v_len_r,v_ixt,v_ixl,v_ixr,v_eq_bb,v_ne_bb,v_subE_i,List.map_cons,List.map_nil,List.length_cons,List.length_nil,List.cons_append,List.nil_append,List.replicate_succ,List.replicate_zero,List.getElem?_cons_zero,List.getElem?_cons_succ,List.set_cons_zero,List.set_cons_succ,Option.map_some,Nat.reduceSub,Nat.reduceAdd,Nat.reduceLT,Nat.reduceLeDiff,bigN, nn__law_is_ahead, f1, f2, hb, Bool.not_false]
def arS (c : Pt) (P found : List Pt) (x3 x4 : SV) : DS := [.dat (pt c), .dat (.lst (wk P)), .own (.lst (wk found)), x3, x4, .emp]
theorem ahd_comp {c p : Pt} {found : List Pt} {x1 x2 x4 : SV} (hp : Aw c p) (hf : ∀ a ∈ found, Aw c a) (hl : found.length ≤ 1000) : compL [5] (tgN 5) Q_law_around_0 (mVar 5) (wk found) [] [.dat (pt c), x1, x2, .dat (pt p), x4, .emp] = .ok (wk (found.filter fun o => ahd c o p)) [.dat (pt c), x1, x2, .dat (pt p), x4, .emp] := by
  refine comp_f0 (l := found) pt (fun o => ahd c o p) pt (by omega) (fun s hs => ?_)
  have fa := e_law_is_ahead (hf s hs) hp
  refine ⟨[.dat (pt c), x1, x2, .dat (pt p), x4, .dat (pt s)], rfl, ?_, rfl, fun _ => rfl⟩
  simp only [v_bok,v_berr,v_sok,v_serr,v_nx,v_rt,v_bk,v_ct,v_er,v_ofs,v_var,v_slot_dat,v_slot_own,v_c,v_bin,v_kbin,v_op2,v_pk2,v_un,v_op1,v_pk1,v_peek_dat,v_peek_fr,v_peek_slot,v_pslot_own,v_pslot_dat,v_cnl,v_test,v_ktest,v_nil,v_cons,v_kcons,v_kcons2,v_fast,v_kfast,v_all0,v_all1,v_kall,v_kall2,v_force_dat,v_force_fr,v_force_slot,v_fslot_own,v_fslot_dat,v_call,v_callF,v_at_ok,v_at_err,v_vB,v_atB,v_vM2,v_vM3,v_pkL,v_peeks0,v_peeks1,v_cons22,v_it_l,v_it_r,v_it_t,v_ret_dat,v_ret_fr,v_ret_slot,v_rslot_own,v_rslot_dat,v_retN,v_put_dat,v_put_fr,v_put_slot,v_kput,v_tgN,v_tgNil,v_tgCons,v_ktg,v_tgT,v_runF,v_endF_rt,v_endF_nx,v_endF_er,v_runB,v_endB_rt,v_endB_nx,v_add,v_sub,v_mod,v_neg,v_lt,v_cmp,v_eq,v_ne,v_len_l,v_len_t,v_len_r,v_ixt,v_ixl,v_ixr,v_eq_bb,v_ne_bb,v_subE_i,List.map_cons,List.map_nil,List.length_cons,List.length_nil,List.cons_append,List.nil_append,List.replicate_succ,List.replicate_zero,List.getElem?_cons_zero,List.getElem?_cons_succ,List.set_cons_zero,List.set_cons_succ,Option.map_some,Nat.reduceSub,Nat.reduceAdd,Nat.reduceLT,Nat.reduceLeDiff,bigN, Q_law_around_0, fa]
theorem wk_app (a b : List Pt) : wk (a ++ b) = wk a ++ wk b := List.map_append ..
theorem wk_take (a : List Pt) (k : Nat) : (wk a).take k = wk (a.take k) := (List.map_take ..).symm
theorem wk_drop (a : List Pt) (k : Nat) : (wk a).drop k = wk (a.drop k) := (List.map_drop ..).symm
theorem e_law_around {c : Pt} {P : List Pt} (h : ∀ p ∈ P, Aw c p) (hl : P.length ≤ 1000) : F_law_around [pt c, .lst (wk P)] = .ok (.fr (.lst (wk (rndL c P)))) := by
  obtain ⟨τ', r, x3, x4, rfl⟩ := for_all (mt := tgN 3) (mb := B_law_around_0) (xs := wk P) (τ := arS c P [] .emp .emp)
    (fun i τ => ∃ x3 x4, τ = arS c P ((P.take i).foldl (putIn c) []) x3 x4) ⟨_, _, rfl⟩ (fun i x τ hx ⟨x3, x4, e⟩ => by
      subst e
      have hi : i < P.length := by
        have := (List.getElem?_eq_some_iff.mp hx).1
        rwa [wk_len] at this
      rw [wk_at hi] at hx
      cases hx
      have ap := h P[i] (List.getElem_mem hi)
      generalize hfd : (P.take i).foldl (putIn c) [] = found
      have pm := (rnd_fold c (P.take i) [] List.Pairwise.nil).2
      rw [hfd, List.append_nil] at pm
      have hf : ∀ a ∈ found, Aw c a := fun a ha => h a (List.mem_of_mem_take (pm.mem_iff.mp ha))
      have hfl : found.length ≤ 1000 := by
        rw [pm.length_eq, List.length_take]; omega
      have ac := fun x1 x2 x4 => ahd_comp (x1 := x1) (x2 := x2) (x4 := x4) ap hf hfl
      have hk : (found.filter fun o => ahd c o P[i]).length ≤ found.length := List.length_filter_le _ _
      refine ⟨arS c P found (.dat (pt P[i])) x4, arS c P (putIn c found P[i]) (.dat (pt P[i])) (.dat (.int ((found.filter fun o => ahd c o P[i]).length : Nat))), rfl, ?_, .dat (pt P[i]), .dat (.int ((found.filter fun o => ahd c o P[i]).length : Nat)), ?_⟩
      · unfold putIn
        generalize hkk : (found.filter fun o => ahd c o P[i]).length = k at hk
        have e0 := wk_len (found.filter fun o => ahd c o P[i])
        rw [hkk] at e0
        have c1 : cutD (wk found) none (some (k : Int)) = wk (found.take k) := by rw [cut_to (by omega), Int.toNat_natCast, wk_take]
        have c2 : cutD (wk found) (some (k : Int)) none = wk (found.drop k) := by rw [cut_from (by omega), Int.toNat_natCast, wk_drop]
        have l1 := wk_len (found.take k)
        have l2 := wk_len (found.drop k)
        rw [List.length_take] at l1
        rw [List.length_drop] at l2
        have a1 : addD (.lst (wk (found.take k))) (.lst [pt P[i]]) = some (.fr (.lst (wk (found.take k ++ [P[i]])))) := by
          rw [v_add_l (by simp only [List.length_cons, List.length_nil]; omega), wk_app]; rfl
        have a2 : addD (.lst (wk (found.take k ++ [P[i]]))) (.lst (wk (found.drop k))) = some (.fr (.lst (wk (found.take k ++ [P[i]] ++ found.drop k)))) := by
          rw [v_add_l (by rw [wk_app, List.length_append]; have : (wk [P[i]]).length = 1 := rfl; omega), wk_app (found.take k ++ [P[i]])]
        simp only [v_bok,v_berr,v_sok,v_serr,v_nx,v_rt,v_bk,v_ct,v_er,v_ofs,v_var,v_slot_dat,v_slot_own,v_c,v_bin,v_kbin,v_op2,v_pk2,v_un,v_op1,v_pk1,v_peek_dat,v_peek_fr,v_peek_slot,v_pslot_own,v_pslot_dat,v_cnl,v_test,v_ktest,v_nil,v_cons,v_kcons,v_kcons2,v_fast,v_kfast,v_all0,v_all1,v_kall,v_kall2,v_force_dat,v_force_fr,v_force_slot,v_fslot_own,v_fslot_dat,v_lst,v_klst,v_at_ok,v_at_err,v_vB,v_atB,v_vM2,v_vM3,v_cb,v_kcb,v_pkL,v_peeks0,v_peeks1,v_cons22,v_sl,v_ksl,v_ksl2,v_ksl3,v_slE_l,v_slE_t,v_slE_r,v_some,v_ksome,v_none,v_iter,v_it_l,v_it_r,v_it_t,v_lc,v_klc,v_klc2,v_seq,v_ret,v_ret_dat,v_ret_fr,v_ret_slot,v_rslot_own,v_rslot_dat,v_retN,v_set,v_put_dat,v_put_fr,v_put_slot,v_kput,v_tgN,v_tgNil,v_tgCons,v_ktg,v_tgT,v_for,v_runF,v_endF_rt,v_endF_nx,v_endF_er,v_runB,v_endB_rt,v_endB_nx,v_add,v_sub,v_mod,v_neg,v_lt,v_cmp,v_eq,v_ne,v_len_l,v_len_t,v_len_r,v_ixt,v_ixl,v_ixr,v_eq_bb,v_ne_bb,v_subE_i,v_add_l,v_add_t,List.map_cons,List.map_nil,List.length_cons,List.length_nil,List.cons_append,List.nil_append,List.replicate_succ,List.replicate_zero,List.getElem?_cons_zero,List.getElem?_cons_succ,List.set_cons_zero,List.set_cons_succ,Option.map_some,Nat.reduceSub,Nat.reduceAdd,Nat.reduceLT,Nat.reduceLeDiff,bigN, B_law_around_0, arS, ac, e0, c1, c2, a1, a2]
      · rw [List.take_succ, List.getElem?_eq_getElem hi, List.foldl_append, hfd]
        rfl)
  rw [wk_len, List.take_length] at r
  unfold arS at r
  have e2 : wk [] = [] := rfl
  rw [e2] at r
  unfold F_law_around M_law_around
  simp only [v_bok,v_berr,v_sok,v_serr,v_nx,v_rt,v_bk,v_ct,v_er,v_ofs,v_var,v_slot_dat,v_slot_own,v_c,v_bin,v_kbin,v_op2,v_pk2,v_un,v_op1,v_pk1,v_peek_dat,v_peek_fr,v_peek_slot,v_pslot_own,v_pslot_dat,v_cnl,v_test,v_ktest,v_nil,v_cons,v_kcons,v_kcons2,v_fast,v_kfast,v_all0,v_all1,v_kall,v_kall2,v_force_dat,v_force_fr,v_force_slot,v_fslot_own,v_fslot_dat,v_lst,v_klst,v_at_ok,v_at_err,v_vB,v_atB,v_vM2,v_vM3,v_cb,v_kcb,v_pkL,v_peeks0,v_peeks1,v_cons22,v_sl,v_ksl,v_ksl2,v_ksl3,v_slE_l,v_slE_t,v_slE_r,v_some,v_ksome,v_none,v_iter,v_it_l,v_it_r,v_it_t,v_lc,v_klc,v_klc2,v_seq,v_ret,v_ret_dat,v_ret_fr,v_ret_slot,v_rslot_own,v_rslot_dat,v_retN,v_set,v_put_dat,v_put_fr,v_put_slot,v_kput,v_tgN,v_tgNil,v_tgCons,v_ktg,v_tgT,v_for,v_runF,v_endF_rt,v_endF_nx,v_endF_er,v_runB,v_endB_rt,v_endB_nx,v_add,v_sub,v_mod,v_neg,v_lt,v_cmp,v_eq,v_ne,v_len_l,v_len_t,v_len_r,v_ixt,v_ixl,v_ixr,v_eq_bb,v_ne_bb,v_subE_i,v_add_l,v_add_t,List.map_cons,List.map_nil,List.length_cons,List.length_nil,List.cons_append,List.nil_append,List.replicate_succ,List.replicate_zero,List.getElem?_cons_zero,List.getElem?_cons_succ,List.set_cons_zero,List.set_cons_succ,Option.map_some,Nat.reduceSub,Nat.reduceAdd,Nat.reduceLT,Nat.reduceLeDiff,bigN, nn__law_around, r]
  rfl
theorem key_comp {c : Pt} {P : List Pt} {x1 : SV} (h : ∀ p ∈ P, Aw c p) (hl : P.length ≤ 1000) : compL [4] (tgN 4) mYes C_around_0 (wk P) [] [.dat (pt c), x1, .dat (.int c.1), .dat (.int c.2), .emp] = .ok (P.map fun p => keyD (kc c p)) [.dat (pt c), x1, .dat (.int c.1), .dat (.int c.2), .emp] := by
  refine comp_a0 (l := P) pt (fun z => keyD (kc c z)) (by omega) (fun s hs => ?_)
  have hs2 := h s hs
  obtain ⟨b1, b2⟩ := hs2.b
  have fa := e_angle b1 b2
  have fd := e_distance_by hs2.sc hs2.sp
  unfold pt at fd
  refine ⟨[.dat (pt c), x1, .dat (.int c.1), .dat (.int c.2), .dat (pt s)], rfl, rfl, ?_⟩
  unfold pt
  simp only [v_bok,v_berr,v_sok,v_serr,v_nx,v_rt,v_bk,v_ct,v_er,v_ofs,v_var,v_slot_dat,v_slot_own,v_c,v_bin,v_kbin,v_op2,v_pk2,v_un,v_op1,v_pk1,v_peek_dat,v_peek_fr,v_peek_slot,v_pslot_own,v_pslot_dat,v_cnl,v_test,v_ktest,v_nil,v_cons,v_kcons,v_kcons2,v_fast,v_kfast,v_all0,v_all1,v_kall,v_kall2,v_force_dat,v_force_fr,v_force_slot,v_fslot_own,v_fslot_dat,v_tup,v_ktup,v_call,v_callF,v_at_ok,v_at_err,v_vB,v_atB,v_vM2,v_vM3,v_pkL,v_peeks0,v_peeks1,v_cons22,v_it_l,v_it_r,v_it_t,v_yes,v_ret_dat,v_ret_fr,v_ret_slot,v_rslot_own,v_rslot_dat,v_retN,v_put_dat,v_put_fr,v_put_slot,v_kput,v_tgN,v_tgNil,v_tgCons,v_ktg,v_tgT,v_runF,v_endF_rt,v_endF_nx,v_endF_er,v_runB,v_endB_rt,v_endB_nx,v_add,v_sub,v_mod,v_neg,v_lt,v_cmp,v_eq,v_ne,v_len_l,v_len_t,v_len_r,v_ixt,v_ixl,v_ixr,v_eq_bb,v_ne_bb,v_subE_i,v_subE_b,List.map_cons,List.map_nil,List.length_cons,List.length_nil,List.cons_append,List.nil_append,List.replicate_succ,List.replicate_zero,List.getElem?_cons_zero,List.getElem?_cons_succ,List.set_cons_zero,List.set_cons_succ,Option.map_some,Nat.reduceSub,Nat.reduceAdd,Nat.reduceLT,Nat.reduceLeDiff,bigN, C_around_0, at0, at1, fa, fd]
  rfl
theorem cl_pt {a : Pt} {k : Nat} : Cl (k + 2) (pt a) := ⟨show 2 ≤ 100000 by decide, fun x hx => by
  simp only [List.mem_cons, List.not_mem_nil, or_false] at hx
  rcases hx with rfl | rfl <;> trivial⟩
end Lw
set_option maxHeartbeats 1000000
namespace Lw
open PySem DL
theorem v_srtK {me mb : DS → Res RV} {i : Nat} {τ : DS} : mSortK me i mb τ = (((me τ).bind force).bind rowsOf).bind (kSortK i mb) := (rfl)
theorem v_rows {ds : List D} {τ : DS} : rowsOf (.lst ds) τ = .ok ds τ := (rfl)
theorem v_ksrtK {ds : List D} {mb : DS → Res RV} {i : Nat} {τ : DS} : kSortK i mb ds τ = (compL [i] (tgN i) mYes mb ds [] τ).bind fun ks τ2 => ofO (sortByE ds ks) τ2 := (rfl)
theorem in_wk {c : Pt} {P : List Pt} (hl : P.length ≤ 100000) : inD (pt c) (.lst (wk P)) = some (.dat (.bl (decide (c ∈ P)))) := by
  have n := notIn_inj (f := pt) (a := c) (l := P) (k := 2) (fun b _ h => by
    unfold pt at h
    simp only [D.tup.injEq, List.cons.injEq, D.int.injEq, and_true] at h
    exact Prod.ext h.1 h.2) cl_pt (fun b _ => cl_pt) hl (by decide)
  unfold notInD at n
  unfold inD
  show ((DL.inB (pt c) (.lst (P.map pt))).map fun c => RV.dat (.bl c)) = _
  cases q : DL.inB (pt c) (.lst (P.map pt)) with
  | none => rw [q] at n; cases n
  | some b =>
    rw [q] at n
    have this := Option.some.inj n
    by_cases h : c ∈ P
    · simp [h] at this
      simp [h, this]
    · simp [h] at this
      simp [h, this]
theorem star_row (es : List D) (τ : DS) : forceAll (es.map RV.dat ++ []) τ = .ok es τ := by
  rw [all_dats, v_all0]
  simp only [v_bok, List.append_nil]
theorem e_around_no {d : D} {es : List D} (hp : ∀ x ∈ d :: es, pv x = true) (h : (d :: es).all isPt = false) (hl : es.length ≤ 900) : F_around [d, .lst es] = .err 2 := by
  have cp := e_check_points hp (by rw [List.length_cons]; omega)
  rw [h] at cp
  have st := star_row es
  have lb : (d :: es).length ≤ bigN := by rw [List.length_cons]; show _ ≤ 1000000; omega
  unfold F_around M_around
  simp only [v_bok,v_berr,v_sok,v_serr,v_nx,v_rt,v_bk,v_ct,v_er,v_ofs,v_var,v_slot_dat,v_slot_own,v_c,v_bin,v_kbin,v_op2,v_pk2,v_un,v_op1,v_pk1,v_peek_dat,v_peek_fr,v_peek_slot,v_pslot_own,v_pslot_dat,v_cnl,v_test,v_ktest,v_nil,v_cons,v_kcons,v_kcons2,v_fast,v_kfast,v_all0,v_all1,v_kall,v_kall2,v_force_dat,v_force_fr,v_force_slot,v_fslot_own,v_fslot_dat,v_lst,v_klst,v_call,v_callF,v_at_ok,v_at_err,v_vB,v_atB,v_vM2,v_vM3,v_pkL,v_peeks0,v_peeks1,v_cons22,v_it_l,v_it_r,v_it_t,v_seq,v_skip,v_raise,v_drop,v_kdrop,v_ret,v_ret_dat,v_ret_fr,v_ret_slot,v_rslot_own,v_rslot_dat,v_retN,v_ifS,v_kifS1,v_kifS0,v_put_dat,v_put_fr,v_put_slot,v_kput,v_asg,v_kasg,v_kasg2,v_tgN,v_tgNil,v_tgCons,v_ktg,v_tgT,v_runF,v_endF_rt,v_endF_nx,v_endF_er,v_runB,v_endB_rt,v_endB_nx,v_add,v_sub,v_mod,v_neg,v_lt,v_cmp,v_eq,v_ne,v_len_l,v_len_t,v_len_r,v_ixt,v_ixl,v_ixr,v_eq_bb,v_ne_bb,v_star,v_kstar,v_pks_l,v_pks_r,v_pks_t,v_kstar1,v_kstar2,v_subE_i,List.map_cons,List.map_nil,List.length_cons,List.length_nil,List.cons_append,List.nil_append,List.replicate_succ,List.replicate_zero,List.getElem?_cons_zero,List.getElem?_cons_succ,List.set_cons_zero,List.set_cons_succ,Option.map_some,Nat.reduceSub,Nat.reduceAdd,Nat.reduceLT,Nat.reduceLeDiff,bigN, nn_around, v_star, v_kstar, v_kstar1, v_kstar2, st, v_klst lb, cp]
  rfl
theorem e_around_in {c : Pt} {P : List Pt} (sc : Sm c) (hs : ∀ p ∈ P, Sm p) (h : c ∈ P) (hl : P.length ≤ 900) : F_around [pt c, .lst (wk P)] = .err 3 := by
  have hall : (pt c :: wk P).all isPt = true := by
    rw [List.all_cons, isPt_of sc, wk_isPt hs]; rfl
  have cp := cp_ok hall (by rw [List.length_cons, wk_len]; omega)
  have st := star_row (wk P)
  have lb : (pt c :: wk P).length ≤ bigN := by rw [List.length_cons, wk_len]; show _ ≤ 1000000; omega
  have i1 := in_wk (c := c) (P := P) (by omega)
  rw [decide_eq_true h] at i1
  unfold F_around M_around
  simp only [v_bok,v_berr,v_sok,v_serr,v_nx,v_rt,v_bk,v_ct,v_er,v_ofs,v_var,v_slot_dat,v_slot_own,v_c,v_bin,v_kbin,v_op2,v_pk2,v_un,v_op1,v_pk1,v_peek_dat,v_peek_fr,v_peek_slot,v_pslot_own,v_pslot_dat,v_cnl,v_test,v_ktest,v_nil,v_cons,v_kcons,v_kcons2,v_fast,v_kfast,v_all0,v_all1,v_kall,v_kall2,v_force_dat,v_force_fr,v_force_slot,v_fslot_own,v_fslot_dat,v_lst,v_klst,v_call,v_callF,v_at_ok,v_at_err,v_vB,v_atB,v_vM2,v_vM3,v_pkL,v_peeks0,v_peeks1,v_cons22,v_it_l,v_it_r,v_it_t,v_seq,v_skip,v_raise,v_drop,v_kdrop,v_ret,v_ret_dat,v_ret_fr,v_ret_slot,v_rslot_own,v_rslot_dat,v_retN,v_ifS,v_kifS1,v_kifS0,v_put_dat,v_put_fr,v_put_slot,v_kput,v_asg,v_kasg,v_kasg2,v_tgN,v_tgNil,v_tgCons,v_ktg,v_tgT,v_runF,v_endF_rt,v_endF_nx,v_endF_er,v_runB,v_endB_rt,v_endB_nx,v_add,v_sub,v_mod,v_neg,v_lt,v_cmp,v_eq,v_ne,v_len_l,v_len_t,v_len_r,v_ixt,v_ixl,v_ixr,v_eq_bb,v_ne_bb,v_star,v_kstar,v_pks_l,v_pks_r,v_pks_t,v_kstar1,v_kstar2,v_subE_i,List.map_cons,List.map_nil,List.length_cons,List.length_nil,List.cons_append,List.nil_append,List.replicate_succ,List.replicate_zero,List.getElem?_cons_zero,List.getElem?_cons_succ,List.set_cons_zero,List.set_cons_succ,Option.map_some,Nat.reduceSub,Nat.reduceAdd,Nat.reduceLT,Nat.reduceLeDiff,bigN, nn_around, v_star, v_kstar, v_kstar1, v_kstar2, st, v_klst lb, cp, i1]
theorem e_around {c : Pt} {P : List Pt} (sc : Sm c) (h : ∀ p ∈ P, Aw c p) (hl : P.length ≤ 900) : F_around [pt c, .lst (wk P)] = .ok (.fr (.lst (wk (rndL c P)))) := by
  have hall : (pt c :: wk P).all isPt = true := by
    rw [List.all_cons, isPt_of sc, wk_isPt fun p hp => (h p hp).sp]; rfl
  have cp := cp_ok hall (by rw [List.length_cons, wk_len]; omega)
  have st := star_row (wk P)
  have lb : (pt c :: wk P).length ≤ bigN := by rw [List.length_cons, wk_len]; show _ ≤ 1000000; omega
  have i1 := in_wk (c := c) (P := P) (by omega)
  rw [decide_eq_false fun z => (h c z).ne rfl] at i1
  have kcm := key_comp (x1 := .dat (.lst (wk P))) h (by omega)
  have sb := sort_by c P
  rw [rnd_eq h] at sb
  unfold F_around M_around
  unfold pt at cp lb i1 kcm ⊢
  simp only [v_bok,v_berr,v_sok,v_serr,v_nx,v_rt,v_bk,v_ct,v_er,v_ofs,v_var,v_slot_dat,v_slot_own,v_c,v_bin,v_kbin,v_op2,v_pk2,v_un,v_op1,v_pk1,v_peek_dat,v_peek_fr,v_peek_slot,v_pslot_own,v_pslot_dat,v_cnl,v_test,v_ktest,v_nil,v_cons,v_kcons,v_kcons2,v_fast,v_kfast,v_all0,v_all1,v_kall,v_kall2,v_force_dat,v_force_fr,v_force_slot,v_fslot_own,v_fslot_dat,v_lst,v_klst,v_call,v_callF,v_at_ok,v_at_err,v_vB,v_atB,v_vM2,v_vM3,v_pkL,v_peeks0,v_peeks1,v_cons22,v_it_l,v_it_r,v_it_t,v_seq,v_skip,v_raise,v_drop,v_kdrop,v_ret,v_ret_dat,v_ret_fr,v_ret_slot,v_rslot_own,v_rslot_dat,v_retN,v_ifS,v_kifS1,v_kifS0,v_put_dat,v_put_fr,v_put_slot,v_kput,v_asg,v_kasg,v_kasg2,v_tgN,v_tgNil,v_tgCons,v_ktg,v_tgT,v_runF,v_endF_rt,v_endF_nx,v_endF_er,v_runB,v_endB_rt,v_endB_nx,v_add,v_sub,v_mod,v_neg,v_lt,v_cmp,v_eq,v_ne,v_len_l,v_len_t,v_len_r,v_ixt,v_ixl,v_ixr,v_eq_bb,v_ne_bb,v_star,v_kstar,v_pks_l,v_pks_r,v_pks_t,v_kstar1,v_kstar2,v_subE_i,List.map_cons,List.map_nil,List.length_cons,List.length_nil,List.cons_append,List.nil_append,List.replicate_succ,List.replicate_zero,List.getElem?_cons_zero,List.getElem?_cons_succ,List.set_cons_zero,List.set_cons_succ,Option.map_some,Nat.reduceSub,Nat.reduceAdd,Nat.reduceLT,Nat.reduceLeDiff,bigN, nn_around, v_star, v_kstar, v_kstar1, v_kstar2, st, v_klst lb, cp, i1, v_srtK, v_rows, v_ksrtK, kcm, sb]
def flg : List Bool := [true, false, false, false, false]
def flgT : List Bool := [false, true, false, false, false]
theorem told_try {τ : DS} (hl : 3 < τ.length) : kTry 3 (fun c => if c = 2 then some true else if c = 3 then some true else none) (fun c τ => if c = 2 then .ok (.fr (.lst (([true, false, false, false, false] : List Bool).map D.bl))) τ else if c = 3 then .ok (.fr (.lst (([false, true, false, false, false] : List Bool).map D.bl))) τ else .stuck) (.err 2 τ) = .rt (.fr (.lst (flg.map D.bl))) (τ.set 3 .emp) := by
  rw [v_ktry_er]; exact v_ktry2 (c := 2) hl
theorem told_try3 {τ : DS} (hl : 3 < τ.length) : kTry 3 (fun c => if c = 2 then some true else if c = 3 then some true else none) (fun c τ => if c = 2 then .ok (.fr (.lst (([true, false, false, false, false] : List Bool).map D.bl))) τ else if c = 3 then .ok (.fr (.lst (([false, true, false, false, false] : List Bool).map D.bl))) τ else .stuck) (.err 3 τ) = .rt (.fr (.lst (flgT.map D.bl))) (τ.set 3 .emp) := by
  rw [v_ktry_er]; exact v_ktry2 (c := 3) hl
theorem told0 {a b x : D} (h : F_meeting [a, b] = .ok (.dat x)) : F_law_told [.int 0, a, b] = .ok (.dat x) := by
  have z0 : ((0 : Int) == 2) = false := rfl
  unfold F_law_told M_law_told
  simp only [v_bok,v_berr,v_sok,v_serr,v_nx,v_rt,v_bk,v_ct,v_er,v_ofs,v_var,v_slot_dat,v_slot_own,v_c,v_bin,v_kbin,v_op2,v_pk2,v_un,v_op1,v_pk1,v_peek_dat,v_peek_fr,v_peek_slot,v_pslot_own,v_pslot_dat,v_cnl,v_test,v_ktest,v_nil,v_cons,v_kcons,v_kcons2,v_fast,v_kfast,v_all0,v_all1,v_kall,v_kall2,v_force_dat,v_force_fr,v_force_slot,v_fslot_own,v_fslot_dat,v_lst,v_klst,v_call,v_callF,v_at_ok,v_at_err,v_vB,v_atB,v_vM2,v_vM3,v_pkL,v_peeks0,v_peeks1,v_cons22,v_it_l,v_it_r,v_it_t,v_callV,v_vV,v_vV2,v_seq,v_skip,v_ret,v_ret_dat,v_ret_fr,v_ret_slot,v_rslot_own,v_rslot_dat,v_retN,v_ifS,v_kifS1,v_kifS0,v_put_dat,v_put_fr,v_put_slot,v_kput,v_tgN,v_tgNil,v_tgCons,v_ktg,v_tgT,v_try,v_ktry_nx,v_ktry_rt,v_ktry_er,v_ktry2,v_ktry3,v_runF,v_endF_rt,v_endF_nx,v_endF_er,v_runB,v_endB_rt,v_endB_nx,v_add,v_sub,v_mod,v_neg,v_lt,v_cmp,v_eq,v_ne,v_len_l,v_len_t,v_len_r,v_ixt,v_ixl,v_ixr,v_eq_bb,v_ne_bb,v_subE_i,List.map_cons,List.map_nil,List.length_cons,List.length_nil,List.cons_append,List.nil_append,List.replicate_succ,List.replicate_zero,List.getElem?_cons_zero,List.getElem?_cons_succ,List.set_cons_zero,List.set_cons_succ,Option.map_some,Nat.reduceSub,Nat.reduceAdd,Nat.reduceLT,Nat.reduceLeDiff,bigN, nn__law_told, z0, at0, h, reduceIte, Nat.reduceEqDiff, eq_self]
theorem told0_e {a b : D} (h : F_meeting [a, b] = .err 2) : F_law_told [.int 0, a, b] = .ok (.fr (.lst (flg.map D.bl))) := by
  have z0 : ((0 : Int) == 2) = false := rfl
  have k := told_try (τ := [.dat (.int 0), .dat a, .dat b, .emp]) (show 3 < 4 by decide)
  unfold F_law_told M_law_told
  rw [v_runF, v_try]
  refine (congrArg (fun s => endF (kTry 3 _ _ s)) (?_ : _ = SRes.err 2 [.dat (.int 0), .dat a, .dat b, .emp])).trans (congrArg endF k)
  simp only [v_bok,v_berr,v_sok,v_serr,v_nx,v_rt,v_bk,v_ct,v_er,v_ofs,v_var,v_slot_dat,v_slot_own,v_c,v_bin,v_kbin,v_op2,v_pk2,v_un,v_op1,v_pk1,v_peek_dat,v_peek_fr,v_peek_slot,v_pslot_own,v_pslot_dat,v_cnl,v_test,v_ktest,v_nil,v_cons,v_kcons,v_kcons2,v_fast,v_kfast,v_all0,v_all1,v_kall,v_kall2,v_force_dat,v_force_fr,v_force_slot,v_fslot_own,v_fslot_dat,v_lst,v_klst,v_call,v_callF,v_at_ok,v_at_err,v_vB,v_atB,v_vM2,v_vM3,v_pkL,v_peeks0,v_peeks1,v_cons22,v_it_l,v_it_r,v_it_t,v_callV,v_vV,v_vV2,v_seq,v_skip,v_ret,v_ret_dat,v_ret_fr,v_ret_slot,v_rslot_own,v_rslot_dat,v_retN,v_ifS,v_kifS1,v_kifS0,v_put_dat,v_put_fr,v_put_slot,v_kput,v_tgN,v_tgNil,v_tgCons,v_ktg,v_tgT,v_try,v_ktry_nx,v_ktry_rt,v_ktry_er,v_ktry2,v_ktry3,v_runF,v_endF_rt,v_endF_nx,v_endF_er,v_runB,v_endB_rt,v_endB_nx,v_add,v_sub,v_mod,v_neg,v_lt,v_cmp,v_eq,v_ne,v_len_l,v_len_t,v_len_r,v_ixt,v_ixl,v_ixr,v_eq_bb,v_ne_bb,v_subE_i,List.map_cons,List.map_nil,List.length_cons,List.length_nil,List.cons_append,List.nil_append,List.replicate_succ,List.replicate_zero,List.getElem?_cons_zero,List.getElem?_cons_succ,List.set_cons_zero,List.set_cons_succ,Option.map_some,Nat.reduceSub,Nat.reduceAdd,Nat.reduceLT,Nat.reduceLeDiff,bigN, nn__law_told, z0, at0, h, reduceIte, Nat.reduceEqDiff, eq_self]
theorem told1 {a b : D} {ds : List D} (h : F_around [a, b] = .ok (.fr (.lst ds))) : F_law_told [.int 1, a, b] = .ok (.fr (.lst ds)) := by
  have z0 : ((1 : Int) == 2) = false := rfl
  unfold F_law_told M_law_told
  simp only [v_bok,v_berr,v_sok,v_serr,v_nx,v_rt,v_bk,v_ct,v_er,v_ofs,v_var,v_slot_dat,v_slot_own,v_c,v_bin,v_kbin,v_op2,v_pk2,v_un,v_op1,v_pk1,v_peek_dat,v_peek_fr,v_peek_slot,v_pslot_own,v_pslot_dat,v_cnl,v_test,v_ktest,v_nil,v_cons,v_kcons,v_kcons2,v_fast,v_kfast,v_all0,v_all1,v_kall,v_kall2,v_force_dat,v_force_fr,v_force_slot,v_fslot_own,v_fslot_dat,v_lst,v_klst,v_call,v_callF,v_at_ok,v_at_err,v_vB,v_atB,v_vM2,v_vM3,v_pkL,v_peeks0,v_peeks1,v_cons22,v_it_l,v_it_r,v_it_t,v_callV,v_vV,v_vV2,v_seq,v_skip,v_ret,v_ret_dat,v_ret_fr,v_ret_slot,v_rslot_own,v_rslot_dat,v_retN,v_ifS,v_kifS1,v_kifS0,v_put_dat,v_put_fr,v_put_slot,v_kput,v_tgN,v_tgNil,v_tgCons,v_ktg,v_tgT,v_try,v_ktry_nx,v_ktry_rt,v_ktry_er,v_ktry2,v_ktry3,v_runF,v_endF_rt,v_endF_nx,v_endF_er,v_runB,v_endB_rt,v_endB_nx,v_add,v_sub,v_mod,v_neg,v_lt,v_cmp,v_eq,v_ne,v_len_l,v_len_t,v_len_r,v_ixt,v_ixl,v_ixr,v_eq_bb,v_ne_bb,v_subE_i,List.map_cons,List.map_nil,List.length_cons,List.length_nil,List.cons_append,List.nil_append,List.replicate_succ,List.replicate_zero,List.getElem?_cons_zero,List.getElem?_cons_succ,List.set_cons_zero,List.set_cons_succ,Option.map_some,Nat.reduceSub,Nat.reduceAdd,Nat.reduceLT,Nat.reduceLeDiff,bigN, nn__law_told, z0, at1, h, reduceIte, Nat.reduceEqDiff, eq_self]
theorem told1_e {a b : D} (h : F_around [a, b] = .err 2) : F_law_told [.int 1, a, b] = .ok (.fr (.lst (flg.map D.bl))) := by
  have z0 : ((1 : Int) == 2) = false := rfl
  have k := told_try (τ := [.dat (.int 1), .dat a, .dat b, .emp]) (show 3 < 4 by decide)
  unfold F_law_told M_law_told
  rw [v_runF, v_try]
  refine (congrArg (fun s => endF (kTry 3 _ _ s)) (?_ : _ = SRes.err 2 [.dat (.int 1), .dat a, .dat b, .emp])).trans (congrArg endF k)
  simp only [v_bok,v_berr,v_sok,v_serr,v_nx,v_rt,v_bk,v_ct,v_er,v_ofs,v_var,v_slot_dat,v_slot_own,v_c,v_bin,v_kbin,v_op2,v_pk2,v_un,v_op1,v_pk1,v_peek_dat,v_peek_fr,v_peek_slot,v_pslot_own,v_pslot_dat,v_cnl,v_test,v_ktest,v_nil,v_cons,v_kcons,v_kcons2,v_fast,v_kfast,v_all0,v_all1,v_kall,v_kall2,v_force_dat,v_force_fr,v_force_slot,v_fslot_own,v_fslot_dat,v_lst,v_klst,v_call,v_callF,v_at_ok,v_at_err,v_vB,v_atB,v_vM2,v_vM3,v_pkL,v_peeks0,v_peeks1,v_cons22,v_it_l,v_it_r,v_it_t,v_callV,v_vV,v_vV2,v_seq,v_skip,v_ret,v_ret_dat,v_ret_fr,v_ret_slot,v_rslot_own,v_rslot_dat,v_retN,v_ifS,v_kifS1,v_kifS0,v_put_dat,v_put_fr,v_put_slot,v_kput,v_tgN,v_tgNil,v_tgCons,v_ktg,v_tgT,v_try,v_ktry_nx,v_ktry_rt,v_ktry_er,v_ktry2,v_ktry3,v_runF,v_endF_rt,v_endF_nx,v_endF_er,v_runB,v_endB_rt,v_endB_nx,v_add,v_sub,v_mod,v_neg,v_lt,v_cmp,v_eq,v_ne,v_len_l,v_len_t,v_len_r,v_ixt,v_ixl,v_ixr,v_eq_bb,v_ne_bb,v_subE_i,List.map_cons,List.map_nil,List.length_cons,List.length_nil,List.cons_append,List.nil_append,List.replicate_succ,List.replicate_zero,List.getElem?_cons_zero,List.getElem?_cons_succ,List.set_cons_zero,List.set_cons_succ,Option.map_some,Nat.reduceSub,Nat.reduceAdd,Nat.reduceLT,Nat.reduceLeDiff,bigN, nn__law_told, z0, at1, h, reduceIte, Nat.reduceEqDiff, eq_self]
theorem told1_3 {a b : D} (h : F_around [a, b] = .err 3) : F_law_told [.int 1, a, b] = .ok (.fr (.lst (flgT.map D.bl))) := by
  have z0 : ((1 : Int) == 2) = false := rfl
  have k := told_try3 (τ := [.dat (.int 1), .dat a, .dat b, .emp]) (show 3 < 4 by decide)
  unfold F_law_told M_law_told
  rw [v_runF, v_try]
  refine (congrArg (fun s => endF (kTry 3 _ _ s)) (?_ : _ = SRes.err 3 [.dat (.int 1), .dat a, .dat b, .emp])).trans (congrArg endF k)
  simp only [v_bok,v_berr,v_sok,v_serr,v_nx,v_rt,v_bk,v_ct,v_er,v_ofs,v_var,v_slot_dat,v_slot_own,v_c,v_bin,v_kbin,v_op2,v_pk2,v_un,v_op1,v_pk1,v_peek_dat,v_peek_fr,v_peek_slot,v_pslot_own,v_pslot_dat,v_cnl,v_test,v_ktest,v_nil,v_cons,v_kcons,v_kcons2,v_fast,v_kfast,v_all0,v_all1,v_kall,v_kall2,v_force_dat,v_force_fr,v_force_slot,v_fslot_own,v_fslot_dat,v_lst,v_klst,v_call,v_callF,v_at_ok,v_at_err,v_vB,v_atB,v_vM2,v_vM3,v_pkL,v_peeks0,v_peeks1,v_cons22,v_it_l,v_it_r,v_it_t,v_callV,v_vV,v_vV2,v_seq,v_skip,v_ret,v_ret_dat,v_ret_fr,v_ret_slot,v_rslot_own,v_rslot_dat,v_retN,v_ifS,v_kifS1,v_kifS0,v_put_dat,v_put_fr,v_put_slot,v_kput,v_tgN,v_tgNil,v_tgCons,v_ktg,v_tgT,v_try,v_ktry_nx,v_ktry_rt,v_ktry_er,v_ktry2,v_ktry3,v_runF,v_endF_rt,v_endF_nx,v_endF_er,v_runB,v_endB_rt,v_endB_nx,v_add,v_sub,v_mod,v_neg,v_lt,v_cmp,v_eq,v_ne,v_len_l,v_len_t,v_len_r,v_ixt,v_ixl,v_ixr,v_eq_bb,v_ne_bb,v_subE_i,List.map_cons,List.map_nil,List.length_cons,List.length_nil,List.cons_append,List.nil_append,List.replicate_succ,List.replicate_zero,List.getElem?_cons_zero,List.getElem?_cons_succ,List.set_cons_zero,List.set_cons_succ,Option.map_some,Nat.reduceSub,Nat.reduceAdd,Nat.reduceLT,Nat.reduceLeDiff,bigN, nn__law_told, z0, at1, h, reduceIte, Nat.reduceEqDiff, eq_self]
theorem told2 {a b : D} {ds : List D} (h : F_in_line [a] = .ok (.fr (.lst ds))) : F_law_told [.int 2, a, b] = .ok (.fr (.lst ds)) := by
  have z0 : ((2 : Int) == 2) = true := rfl
  unfold F_law_told M_law_told
  simp only [v_bok,v_berr,v_sok,v_serr,v_nx,v_rt,v_bk,v_ct,v_er,v_ofs,v_var,v_slot_dat,v_slot_own,v_c,v_bin,v_kbin,v_op2,v_pk2,v_un,v_op1,v_pk1,v_peek_dat,v_peek_fr,v_peek_slot,v_pslot_own,v_pslot_dat,v_cnl,v_test,v_ktest,v_nil,v_cons,v_kcons,v_kcons2,v_fast,v_kfast,v_all0,v_all1,v_kall,v_kall2,v_force_dat,v_force_fr,v_force_slot,v_fslot_own,v_fslot_dat,v_lst,v_klst,v_call,v_callF,v_at_ok,v_at_err,v_vB,v_atB,v_vM2,v_vM3,v_pkL,v_peeks0,v_peeks1,v_cons22,v_it_l,v_it_r,v_it_t,v_callV,v_vV,v_vV2,v_seq,v_skip,v_ret,v_ret_dat,v_ret_fr,v_ret_slot,v_rslot_own,v_rslot_dat,v_retN,v_ifS,v_kifS1,v_kifS0,v_put_dat,v_put_fr,v_put_slot,v_kput,v_tgN,v_tgNil,v_tgCons,v_ktg,v_tgT,v_try,v_ktry_nx,v_ktry_rt,v_ktry_er,v_ktry2,v_ktry3,v_runF,v_endF_rt,v_endF_nx,v_endF_er,v_runB,v_endB_rt,v_endB_nx,v_add,v_sub,v_mod,v_neg,v_lt,v_cmp,v_eq,v_ne,v_len_l,v_len_t,v_len_r,v_ixt,v_ixl,v_ixr,v_eq_bb,v_ne_bb,v_subE_i,List.map_cons,List.map_nil,List.length_cons,List.length_nil,List.cons_append,List.nil_append,List.replicate_succ,List.replicate_zero,List.getElem?_cons_zero,List.getElem?_cons_succ,List.set_cons_zero,List.set_cons_succ,Option.map_some,Nat.reduceSub,Nat.reduceAdd,Nat.reduceLT,Nat.reduceLeDiff,bigN, nn__law_told, z0, h, reduceIte, Nat.reduceEqDiff, eq_self]
theorem told2_e {a b : D} (h : F_in_line [a] = .err 2) : F_law_told [.int 2, a, b] = .ok (.fr (.lst (flg.map D.bl))) := by
  have z0 : ((2 : Int) == 2) = true := rfl
  have k := told_try (τ := [.dat (.int 2), .dat a, .dat b, .emp]) (show 3 < 4 by decide)
  unfold F_law_told M_law_told
  rw [v_runF, v_try]
  refine (congrArg (fun s => endF (kTry 3 _ _ s)) (?_ : _ = SRes.err 2 [.dat (.int 2), .dat a, .dat b, .emp])).trans (congrArg endF k)
  simp only [v_bok,v_berr,v_sok,v_serr,v_nx,v_rt,v_bk,v_ct,v_er,v_ofs,v_var,v_slot_dat,v_slot_own,v_c,v_bin,v_kbin,v_op2,v_pk2,v_un,v_op1,v_pk1,v_peek_dat,v_peek_fr,v_peek_slot,v_pslot_own,v_pslot_dat,v_cnl,v_test,v_ktest,v_nil,v_cons,v_kcons,v_kcons2,v_fast,v_kfast,v_all0,v_all1,v_kall,v_kall2,v_force_dat,v_force_fr,v_force_slot,v_fslot_own,v_fslot_dat,v_lst,v_klst,v_call,v_callF,v_at_ok,v_at_err,v_vB,v_atB,v_vM2,v_vM3,v_pkL,v_peeks0,v_peeks1,v_cons22,v_it_l,v_it_r,v_it_t,v_callV,v_vV,v_vV2,v_seq,v_skip,v_ret,v_ret_dat,v_ret_fr,v_ret_slot,v_rslot_own,v_rslot_dat,v_retN,v_ifS,v_kifS1,v_kifS0,v_put_dat,v_put_fr,v_put_slot,v_kput,v_tgN,v_tgNil,v_tgCons,v_ktg,v_tgT,v_try,v_ktry_nx,v_ktry_rt,v_ktry_er,v_ktry2,v_ktry3,v_runF,v_endF_rt,v_endF_nx,v_endF_er,v_runB,v_endB_rt,v_endB_nx,v_add,v_sub,v_mod,v_neg,v_lt,v_cmp,v_eq,v_ne,v_len_l,v_len_t,v_len_r,v_ixt,v_ixl,v_ixr,v_eq_bb,v_ne_bb,v_subE_i,List.map_cons,List.map_nil,List.length_cons,List.length_nil,List.cons_append,List.nil_append,List.replicate_succ,List.replicate_zero,List.getElem?_cons_zero,List.getElem?_cons_succ,List.set_cons_zero,List.set_cons_succ,Option.map_some,Nat.reduceSub,Nat.reduceAdd,Nat.reduceLT,Nat.reduceLeDiff,bigN, nn__law_told, z0, h, reduceIte, Nat.reduceEqDiff, eq_self]
theorem e_meeting {a b c d : Pt} (h : Str2 a b) (h' : Str2 c d) : F_meeting [ed (a, b), ed (c, d)] = .ok (.dat (mtg a b c d)) := by
  have cs := e_cs2 (e_st h) (e_st h')
  have cs' : F_check_stretches [.lst [ed (a, b), ed (c, d)]] = .ok (.dat .non) := cs
  have m := e_meeting_by h.sa h.sb h'.sa h'.sb
  unfold F_meeting M_meeting
  simp only [v_bok,v_berr,v_sok,v_serr,v_nx,v_rt,v_bk,v_ct,v_er,v_ofs,v_var,v_slot_dat,v_slot_own,v_c,v_bin,v_kbin,v_op2,v_pk2,v_un,v_op1,v_pk1,v_peek_dat,v_peek_fr,v_peek_slot,v_pslot_own,v_pslot_dat,v_cnl,v_test,v_ktest,v_nil,v_cons,v_kcons,v_kcons2,v_fast,v_kfast,v_all0,v_all1,v_kall,v_kall2,v_force_dat,v_force_fr,v_force_slot,v_fslot_own,v_fslot_dat,v_lst,v_klst,v_call,v_callF,v_at_ok,v_at_err,v_vB,v_atB,v_vM2,v_vM3,v_pkL,v_peeks0,v_peeks1,v_cons22,v_it_l,v_it_r,v_it_t,v_seq,v_drop,v_kdrop,v_ret,v_ret_dat,v_ret_fr,v_ret_slot,v_rslot_own,v_rslot_dat,v_retN,v_put_dat,v_put_fr,v_put_slot,v_kput,v_tgN,v_tgNil,v_tgCons,v_ktg,v_tgT,v_runF,v_endF_rt,v_endF_nx,v_endF_er,v_runB,v_endB_rt,v_endB_nx,v_add,v_sub,v_mod,v_neg,v_lt,v_cmp,v_eq,v_ne,v_len_l,v_len_t,v_len_r,v_ixt,v_ixl,v_ixr,v_eq_bb,v_ne_bb,v_subE_i,List.map_cons,List.map_nil,List.length_cons,List.length_nil,List.cons_append,List.nil_append,List.replicate_succ,List.replicate_zero,List.getElem?_cons_zero,List.getElem?_cons_succ,List.set_cons_zero,List.set_cons_succ,Option.map_some,Nat.reduceSub,Nat.reduceAdd,Nat.reduceLT,Nat.reduceLeDiff,bigN, nn_meeting, cs', m]
theorem e_meeting_no {x y : D} {b b2 : Bool} (h : F_is_stretch [x] = .ok (.dat (.bl b))) (h' : F_is_stretch [y] = .ok (.dat (.bl b2))) (n : (b && b2) = false) : F_meeting [x, y] = .err 2 := by
  have cs := e_cs2 h h'
  rw [n] at cs
  have cs' : F_check_stretches [.lst [x, y]] = .err 2 := cs
  unfold F_meeting M_meeting
  simp only [v_bok,v_berr,v_sok,v_serr,v_nx,v_rt,v_bk,v_ct,v_er,v_ofs,v_var,v_slot_dat,v_slot_own,v_c,v_bin,v_kbin,v_op2,v_pk2,v_un,v_op1,v_pk1,v_peek_dat,v_peek_fr,v_peek_slot,v_pslot_own,v_pslot_dat,v_cnl,v_test,v_ktest,v_nil,v_cons,v_kcons,v_kcons2,v_fast,v_kfast,v_all0,v_all1,v_kall,v_kall2,v_force_dat,v_force_fr,v_force_slot,v_fslot_own,v_fslot_dat,v_lst,v_klst,v_call,v_callF,v_at_ok,v_at_err,v_vB,v_atB,v_vM2,v_vM3,v_pkL,v_peeks0,v_peeks1,v_cons22,v_it_l,v_it_r,v_it_t,v_seq,v_drop,v_kdrop,v_ret,v_ret_dat,v_ret_fr,v_ret_slot,v_rslot_own,v_rslot_dat,v_retN,v_put_dat,v_put_fr,v_put_slot,v_kput,v_tgN,v_tgNil,v_tgCons,v_ktg,v_tgT,v_runF,v_endF_rt,v_endF_nx,v_endF_er,v_runB,v_endB_rt,v_endB_nx,v_add,v_sub,v_mod,v_neg,v_lt,v_cmp,v_eq,v_ne,v_len_l,v_len_t,v_len_r,v_ixt,v_ixl,v_ixr,v_eq_bb,v_ne_bb,v_subE_i,List.map_cons,List.map_nil,List.length_cons,List.length_nil,List.cons_append,List.nil_append,List.replicate_succ,List.replicate_zero,List.getElem?_cons_zero,List.getElem?_cons_succ,List.set_cons_zero,List.set_cons_succ,Option.map_some,Nat.reduceSub,Nat.reduceAdd,Nat.reduceLT,Nat.reduceLeDiff,bigN, nn_meeting, cs']
end Lw
set_option maxHeartbeats 1000000
namespace Lw
open PySem DL
def tr3 (a b c : Pt) : D := .tup [pt a, pt b, pt c]
def nP (P : List Pt) (i : Nat) : Pt := P.getD i (0, 0)
def rowT (P : List Pt) (i j : Nat) : List D := ((P.drop (j + 1)).filter fun c => det (nP P i) (nP P j) c == 0).map (tr3 (nP P i) (nP P j))
def inJ (P : List Pt) (i : Nat) : Nat → List D
  | 0 => []
  | k + 1 => inJ P i k ++ rowT P i (i + 1 + k)
def inI (P : List Pt) : Nat → List D
  | 0 => []
  | i + 1 => inI P i ++ inJ P i (P.length - (i + 1))
theorem rowT_len {P : List Pt} (h : P.length ≤ 40) (i j : Nat) : (rowT P i j).length ≤ 40 := by
  unfold rowT
  rw [List.length_map]
  refine Nat.le_trans (List.length_filter_le _ _) ?_
  rw [List.length_drop]; omega
theorem inJ_len {P : List Pt} (h : P.length ≤ 40) (i : Nat) : ∀ k, (inJ P i k).length ≤ 40 * k
  | 0 => Nat.le_refl _
  | k + 1 => by
    have h1 := inJ_len h i k
    have h2 := rowT_len h i (i + 1 + k)
    unfold inJ
    rw [List.length_append]; omega
theorem inI_len {P : List Pt} (h : P.length ≤ 40) : ∀ i, (inI P i).length ≤ 1600 * i
  | 0 => Nat.le_refl _
  | i + 1 => by
    have h1 := inI_len h i
    have h2 := inJ_len h i (P.length - (i + 1))
    unfold inI
    rw [List.length_append]; omega
theorem nP_at {P : List Pt} {i : Nat} (h : i < P.length) : L2.atI (wk P) (i : Int) = some (pt (nP P i)) := by
  rw [atL h]; unfold nP; rw [List.getD_eq_getElem?_getD, List.getElem?_eq_getElem h]; rfl
theorem nP_sm {P : List Pt} (hs : ∀ a ∈ P, Sm a) {i : Nat} (h : i < P.length) : Sm (nP P i) := by
  unfold nP; rw [List.getD_eq_getElem?_getD, List.getElem?_eq_getElem h]; exact hs _ (List.getElem_mem h)
theorem enumL_get : ∀ (l : List D) (n i : Nat), (enumL n l)[i]? = l[i]?.map fun d => D.tup [.int ((n + i : Nat) : Int), d]
  | [], n, i => by simp [enumL]
  | d :: l, n, 0 => by simp [enumL]
  | d :: l, n, i + 1 => by
    unfold enumL
    rw [List.getElem?_cons_succ, List.getElem?_cons_succ, enumL_get l (n + 1) i, show n + 1 + i = n + (i + 1) by omega]
theorem enumL_len : ∀ (l : List D) (n : Nat), (enumL n l).length = l.length
  | [], _ => rfl
  | _ :: l, n => congrArg (· + 1) (enumL_len l (n + 1))
theorem wk_at' {P : List Pt} {i : Nat} (h : i < P.length) : (wk P)[i]? = some (pt (nP P i)) := by
  rw [wk_at h]; unfold nP; rw [List.getD_eq_getElem?_getD, List.getElem?_eq_getElem h]; rfl
theorem drop_from {P : List Pt} (j : Nat) : cutD (wk P) (some ((j : Int) + 1)) none = wk (P.drop (j + 1)) := by
  rw [cut_from (by omega), wk_drop, show ((j : Int) + 1).toNat = j + 1 by omega]
theorem il_comp {P : List Pt} {i j : Nat} {x0 x1 x2 x4 : SV} (hs : ∀ a ∈ P, Sm a) (hi : i < P.length) (hj : j < P.length) (hl : P.length ≤ 40) :
    compL [6] (tgN 6) Q_in_line_0 C_in_line_0 (wk (P.drop (j + 1))) [] [x0, x1, x2, .dat (pt (nP P i)), x4, .dat (pt (nP P j)), .emp] = .ok (rowT P i j) [x0, x1, x2, .dat (pt (nP P i)), x4, .dat (pt (nP P j)), .emp] := by
  refine comp_f0 (l := P.drop (j + 1)) pt (fun c => det (nP P i) (nP P j) c == 0) (tr3 (nP P i) (nP P j)) (by rw [List.length_drop]; omega) (fun c hc => ?_)
  have t := e_turned (c := c) (nP_sm hs hi) (nP_sm hs hj)
  refine ⟨[x0, x1, x2, .dat (pt (nP P i)), x4, .dat (pt (nP P j)), .dat (pt c)], rfl, ?_, rfl, fun _ => rfl⟩
  simp only [v_bok,v_berr,v_sok,v_serr,v_nx,v_rt,v_bk,v_ct,v_er,v_ofs,v_var,v_slot_dat,v_slot_own,v_c,v_bin,v_kbin,v_op2,v_pk2,v_un,v_op1,v_pk1,v_peek_dat,v_peek_fr,v_peek_slot,v_pslot_own,v_pslot_dat,v_cnl,v_test,v_ktest,v_nil,v_cons,v_kcons,v_kcons2,v_fast,v_kfast,v_all0,v_all1,v_kall,v_kall2,v_force_dat,v_force_fr,v_force_slot,v_fslot_own,v_fslot_dat,v_tup,v_ktup,v_call,v_callF,v_at_ok,v_at_err,v_vB,v_atB,v_vM2,v_vM3,v_pkL,v_peeks0,v_peeks1,v_cons22,v_it_l,v_it_r,v_it_t,v_ret_dat,v_ret_fr,v_ret_slot,v_rslot_own,v_rslot_dat,v_retN,v_put_dat,v_put_fr,v_put_slot,v_kput,v_tgN,v_tgNil,v_tgCons,v_ktg,v_tgT,v_runF,v_endF_rt,v_endF_nx,v_endF_er,v_runB,v_endB_rt,v_endB_nx,v_add,v_sub,v_mod,v_neg,v_lt,v_cmp,v_eq,v_ne,v_len_l,v_len_t,v_len_r,v_ixt,v_ixl,v_ixr,v_eq_bb,v_ne_bb,v_subE_i,List.map_cons,List.map_nil,List.length_cons,List.length_nil,List.cons_append,List.nil_append,List.replicate_succ,List.replicate_zero,List.getElem?_cons_zero,List.getElem?_cons_succ,List.set_cons_zero,List.set_cons_succ,Option.map_some,Nat.reduceSub,Nat.reduceAdd,Nat.reduceLT,Nat.reduceLeDiff,bigN, Q_in_line_0, t]
def ilS (P : List Pt) (ds : List D) (x2 x3 x4 x5 : SV) : DS := [.dat (.tup (wk P)), .own (.lst ds), x2, x3, x4, x5, .emp]
theorem il_in {P : List Pt} {i : Nat} {x4 x5 : SV} (hs : ∀ a ∈ P, Sm a) (hi : i < P.length) (hl : P.length ≤ 40) :
    ∃ y4 y5, forL (tgN 4) B_in_line_0 (iRow ((i + 1 : Nat) : Int) (P.length - (i + 1))) (ilS P (inI P i) (.dat (.int i)) (.dat (pt (nP P i))) x4 x5) = .nx (ilS P (inI P (i + 1)) (.dat (.int i)) (.dat (pt (nP P i))) y4 y5) := by
  obtain ⟨z, r⟩ := for_st (mt := tgN 4) (mb := B_in_line_0) (xs := iRow ((i + 1 : Nat) : Int) (P.length - (i + 1))) (α := SV × SV)
    (fun k z => ilS P (inI P i ++ inJ P i k) (.dat (.int i)) (.dat (pt (nP P i))) z.1 z.2) (fun k x hx z => by
      rw [iRow_get] at hx
      obtain ⟨hk, rfl⟩ := hx
      have hj : i + 1 + k < P.length := by omega
      have ea : L2.atI (wk P) (((i + 1 : Nat) : Int) + (k : Int)) = some (pt (nP P (i + 1 + k))) := nP_at hj
      have ed' : cutD (wk P) (some (((i + 1 : Nat) : Int) + (k : Int) + 1)) none = wk (P.drop (i + 1 + k + 1)) := drop_from (i + 1 + k)
      have c := fun x0 x1 x2 x4 => il_comp (x0 := x0) (x1 := x1) (x2 := x2) (x4 := x4) hs hi hj hl
      have l1 := inI_len hl i
      have l2 := inJ_len hl i k
      have l3 := rowT_len hl i (i + 1 + k)
      have ex : fExtend (inI P i ++ inJ P i k) [.lst (rowT P i (i + 1 + k))] = some (.non, inI P i ++ inJ P i k ++ rowT P i (i + 1 + k)) := if_pos (by rw [List.length_append]; show _ ≤ 1000000; omega)
      refine ⟨ilS P (inI P i ++ inJ P i k) (.dat (.int i)) (.dat (pt (nP P i))) (.dat (.int (((i + 1 : Nat) : Int) + (k : Int)))) z.2, (.dat (.int (((i + 1 : Nat) : Int) + (k : Int))), .dat (pt (nP P (i + 1 + k)))), rfl, ?_⟩
      simp only [v_bok,v_berr,v_sok,v_serr,v_nx,v_rt,v_bk,v_ct,v_er,v_ofs,v_var,v_slot_dat,v_slot_own,v_c,v_bin,v_kbin,v_op2,v_pk2,v_un,v_op1,v_pk1,v_peek_dat,v_peek_fr,v_peek_slot,v_pslot_own,v_pslot_dat,v_cnl,v_test,v_ktest,v_nil,v_cons,v_kcons,v_kcons2,v_fast,v_kfast,v_all0,v_all1,v_kall,v_kall2,v_force_dat,v_force_fr,v_force_slot,v_fslot_own,v_fslot_dat,v_at_ok,v_at_err,v_vB,v_atB,v_meth,v_vM,v_methAt,v_vM2,v_vM3,v_pkL,v_peeks0,v_peeks1,v_cons22,v_sl,v_ksl,v_ksl2,v_ksl3,v_slE_l,v_slE_t,v_slE_r,v_some,v_ksome,v_none,v_iter,v_it_l,v_it_r,v_it_t,v_lc,v_klc,v_klc2,v_seq,v_drop,v_kdrop,v_ret_dat,v_ret_fr,v_ret_slot,v_rslot_own,v_rslot_dat,v_retN,v_set,v_put_dat,v_put_fr,v_put_slot,v_kput,v_tgN,v_tgNil,v_tgCons,v_ktg,v_tgT,v_runF,v_endF_rt,v_endF_nx,v_endF_er,v_runB,v_endB_rt,v_endB_nx,v_add,v_sub,v_mod,v_neg,v_lt,v_cmp,v_eq,v_ne,v_len_l,v_len_t,v_len_r,v_ixt,v_ixl,v_ixr,v_eq_bb,v_ne_bb,v_subE_i,v_add_l,v_add_t,List.map_cons,List.map_nil,List.length_cons,List.length_nil,List.cons_append,List.nil_append,List.replicate_succ,List.replicate_zero,List.getElem?_cons_zero,List.getElem?_cons_succ,List.set_cons_zero,List.set_cons_succ,Option.map_some,Nat.reduceSub,Nat.reduceAdd,Nat.reduceLT,Nat.reduceLeDiff,bigN, B_in_line_0, ilS, ea, ed', c, ex, inJ, List.append_assoc]) (x4, x5)
  rw [iRow_len] at r
  refine ⟨z.1, z.2, ?_⟩
  have e0 : inI P i ++ inJ P i 0 = inI P i := List.append_nil _
  rw [e0] at r
  exact r
theorem spB_of {P : List Pt} (ha : asc P = true) (hl : P.length ≤ 40) : spB P = true := by
  unfold spB
  rw [decide_eq_false (by omega), ha]; rfl
theorem e_in_line {P : List Pt} (hs : ∀ a ∈ P, Sm a) (ha : asc P = true) (hl : P.length ≤ 40) : F_in_line [.tup (wk P)] = .ok (.fr (.lst (inI P P.length))) := by
  have s1 := e_as (l := P) (by omega) hs
  rw [spB_of ha hl] at s1
  have cs : F_check_spots [.tup (wk P)] = .ok (.dat .non) := by
    unfold F_check_spots M_check_spots
    simp only [v_bok,v_berr,v_sok,v_serr,v_nx,v_rt,v_bk,v_ct,v_er,v_ofs,v_var,v_slot_dat,v_slot_own,v_c,v_bin,v_kbin,v_op2,v_pk2,v_un,v_op1,v_pk1,v_peek_dat,v_peek_fr,v_peek_slot,v_pslot_own,v_pslot_dat,v_cnl,v_test,v_ktest,v_notT,v_knotT,v_nil,v_cons,v_kcons,v_kcons2,v_fast,v_kfast,v_all0,v_all1,v_kall,v_kall2,v_force_dat,v_force_fr,v_force_slot,v_fslot_own,v_fslot_dat,v_lst,v_klst,v_call,v_callF,v_at_ok,v_at_err,v_vB,v_atB,v_vM2,v_vM3,v_cb,v_kcb,v_pkL,v_peeks0,v_peeks1,v_cons22,v_it_l,v_it_r,v_it_t,v_rng2,v_seq,v_skip,v_raise,v_drop,v_kdrop,v_ret,v_ret_dat,v_ret_fr,v_ret_slot,v_rslot_own,v_rslot_dat,v_retN,v_ifS,v_kifS1,v_kifS0,v_set,v_put_dat,v_put_fr,v_put_slot,v_kput,v_tgN,v_tgNil,v_tgCons,v_ktg,v_tgT,v_for,v_runF,v_endF_rt,v_endF_nx,v_endF_er,v_runB,v_endB_rt,v_endB_nx,v_add,v_sub,v_mod,v_neg,v_lt,v_cmp,v_eq,v_ne,v_len_l,v_len_t,v_len_r,v_ixt,v_ixl,v_ixr,v_eq_bb,v_ne_bb,v_subE_i,v_enumE_l,v_enumE_t,v_add_l,v_add_t,List.map_cons,List.map_nil,List.length_cons,List.length_nil,List.cons_append,List.nil_append,List.replicate_succ,List.replicate_zero,List.getElem?_cons_zero,List.getElem?_cons_succ,List.set_cons_zero,List.set_cons_succ,Option.map_some,Nat.reduceSub,Nat.reduceAdd,Nat.reduceLT,Nat.reduceLeDiff,bigN, nn_check_spots, s1, Bool.not_true]
  obtain ⟨z, r⟩ := for_st (mt := tgT 2 (tgCons (tgN 2) (tgCons (tgN 3) tgNil))) (mb := B_in_line_1) (xs := enumL 0 (wk P)) (α := SV × SV × SV × SV)
    (fun i z => ilS P (inI P i) z.1 z.2.1 z.2.2.1 z.2.2.2) (fun i x hx z => by
      rw [enumL_get, Nat.zero_add] at hx
      have hi : i < P.length := by
        by_cases q : i < P.length
        · exact q
        · rw [List.getElem?_eq_none (by rw [wk_len]; omega)] at hx; cases hx
      rw [wk_at' hi] at hx
      cases hx
      obtain ⟨y4, y5, lp⟩ := il_in (x4 := z.2.2.1) (x5 := z.2.2.2) hs hi hl
      have rg : -1000000000 ≤ ((i : Int) + 1) ∧ ((i : Int) + 1) < 1000000000 ∧ -1000000000 ≤ (P.length : Int) ∧ (P.length : Int) < 1000000000 := by omega
      have n1 : ((P.length : Int) - ((i : Int) + 1)).toNat = P.length - (i + 1) := by omega
      have e0 := wk_len P
      have e1 : ((i + 1 : Nat) : Int) = (i : Int) + 1 := rfl
      rw [e1] at lp
      refine ⟨ilS P (inI P i) (.dat (.int i)) (.dat (pt (nP P i))) z.2.2.1 z.2.2.2, (.dat (.int i), .dat (pt (nP P i)), y4, y5), rfl, ?_⟩
      unfold ilS at lp
      simp only [v_bok,v_berr,v_sok,v_serr,v_nx,v_rt,v_bk,v_ct,v_er,v_ofs,v_var,v_slot_dat,v_slot_own,v_c,v_bin,v_kbin,v_op2,v_pk2,v_un,v_op1,v_pk1,v_peek_dat,v_peek_fr,v_peek_slot,v_pslot_own,v_pslot_dat,v_cnl,v_test,v_ktest,v_notT,v_knotT,v_nil,v_cons,v_kcons,v_kcons2,v_fast,v_kfast,v_all0,v_all1,v_kall,v_kall2,v_force_dat,v_force_fr,v_force_slot,v_fslot_own,v_fslot_dat,v_lst,v_klst,v_call,v_callF,v_at_ok,v_at_err,v_vB,v_atB,v_vM2,v_vM3,v_cb,v_kcb,v_pkL,v_peeks0,v_peeks1,v_cons22,v_it_l,v_it_r,v_it_t,v_rng2,v_seq,v_skip,v_raise,v_drop,v_kdrop,v_ret,v_ret_dat,v_ret_fr,v_ret_slot,v_rslot_own,v_rslot_dat,v_retN,v_ifS,v_kifS1,v_kifS0,v_set,v_put_dat,v_put_fr,v_put_slot,v_kput,v_tgN,v_tgNil,v_tgCons,v_ktg,v_tgT,v_for,v_runF,v_endF_rt,v_endF_nx,v_endF_er,v_runB,v_endB_rt,v_endB_nx,v_add,v_sub,v_mod,v_neg,v_lt,v_cmp,v_eq,v_ne,v_len_l,v_len_t,v_len_r,v_ixt,v_ixl,v_ixr,v_eq_bb,v_ne_bb,v_subE_i,v_enumE_l,v_enumE_t,v_add_l,v_add_t,List.map_cons,List.map_nil,List.length_cons,List.length_nil,List.cons_append,List.nil_append,List.replicate_succ,List.replicate_zero,List.getElem?_cons_zero,List.getElem?_cons_succ,List.set_cons_zero,List.set_cons_succ,Option.map_some,Nat.reduceSub,Nat.reduceAdd,Nat.reduceLT,Nat.reduceLeDiff,bigN, B_in_line_1, ilS, e0, v_rng2 rg, n1, lp]) (.emp, .emp, .emp, .emp)
  rw [enumL_len, wk_len] at r
  unfold ilS at r
  have e2 : inI P 0 = [] := rfl
  rw [e2] at r
  unfold F_in_line M_in_line
  simp only [v_bok,v_berr,v_sok,v_serr,v_nx,v_rt,v_bk,v_ct,v_er,v_ofs,v_var,v_slot_dat,v_slot_own,v_c,v_bin,v_kbin,v_op2,v_pk2,v_un,v_op1,v_pk1,v_peek_dat,v_peek_fr,v_peek_slot,v_pslot_own,v_pslot_dat,v_cnl,v_test,v_ktest,v_notT,v_knotT,v_nil,v_cons,v_kcons,v_kcons2,v_fast,v_kfast,v_all0,v_all1,v_kall,v_kall2,v_force_dat,v_force_fr,v_force_slot,v_fslot_own,v_fslot_dat,v_lst,v_klst,v_call,v_callF,v_at_ok,v_at_err,v_vB,v_atB,v_vM2,v_vM3,v_cb,v_kcb,v_pkL,v_peeks0,v_peeks1,v_cons22,v_it_l,v_it_r,v_it_t,v_rng2,v_seq,v_skip,v_raise,v_drop,v_kdrop,v_ret,v_ret_dat,v_ret_fr,v_ret_slot,v_rslot_own,v_rslot_dat,v_retN,v_ifS,v_kifS1,v_kifS0,v_set,v_put_dat,v_put_fr,v_put_slot,v_kput,v_tgN,v_tgNil,v_tgCons,v_ktg,v_tgT,v_for,v_runF,v_endF_rt,v_endF_nx,v_endF_er,v_runB,v_endB_rt,v_endB_nx,v_add,v_sub,v_mod,v_neg,v_lt,v_cmp,v_eq,v_ne,v_len_l,v_len_t,v_len_r,v_ixt,v_ixl,v_ixr,v_eq_bb,v_ne_bb,v_subE_i,v_enumE_l,v_enumE_t,v_add_l,v_add_t,List.map_cons,List.map_nil,List.length_cons,List.length_nil,List.cons_append,List.nil_append,List.replicate_succ,List.replicate_zero,List.getElem?_cons_zero,List.getElem?_cons_succ,List.set_cons_zero,List.set_cons_succ,Option.map_some,Nat.reduceSub,Nat.reduceAdd,Nat.reduceLT,Nat.reduceLeDiff,bigN, nn_in_line, cs, v_enumE_t, r]
theorem e_in_line_no {d : D} (h : F_are_spots [d] = .ok (.dat (.bl false))) : F_in_line [d] = .err 2 := by
  have cs : F_check_spots [d] = .err 2 := by
    unfold F_check_spots M_check_spots
    simp only [v_bok,v_berr,v_sok,v_serr,v_nx,v_rt,v_bk,v_ct,v_er,v_ofs,v_var,v_slot_dat,v_slot_own,v_c,v_bin,v_kbin,v_op2,v_pk2,v_un,v_op1,v_pk1,v_peek_dat,v_peek_fr,v_peek_slot,v_pslot_own,v_pslot_dat,v_cnl,v_test,v_ktest,v_notT,v_knotT,v_nil,v_cons,v_kcons,v_kcons2,v_fast,v_kfast,v_all0,v_all1,v_kall,v_kall2,v_force_dat,v_force_fr,v_force_slot,v_fslot_own,v_fslot_dat,v_lst,v_klst,v_call,v_callF,v_at_ok,v_at_err,v_vB,v_atB,v_vM2,v_vM3,v_pkL,v_peeks0,v_peeks1,v_cons22,v_it_l,v_it_r,v_it_t,v_seq,v_skip,v_raise,v_drop,v_kdrop,v_ret,v_ret_dat,v_ret_fr,v_ret_slot,v_rslot_own,v_rslot_dat,v_retN,v_ifS,v_kifS1,v_kifS0,v_set,v_put_dat,v_put_fr,v_put_slot,v_kput,v_tgN,v_tgNil,v_tgCons,v_ktg,v_tgT,v_for,v_runF,v_endF_rt,v_endF_nx,v_endF_er,v_runB,v_endB_rt,v_endB_nx,v_add,v_sub,v_mod,v_neg,v_lt,v_cmp,v_eq,v_ne,v_len_l,v_len_t,v_len_r,v_ixt,v_ixl,v_ixr,v_eq_bb,v_ne_bb,v_subE_i,v_enumE_l,v_enumE_t,List.map_cons,List.map_nil,List.length_cons,List.length_nil,List.cons_append,List.nil_append,List.replicate_succ,List.replicate_zero,List.getElem?_cons_zero,List.getElem?_cons_succ,List.set_cons_zero,List.set_cons_succ,Option.map_some,Nat.reduceSub,Nat.reduceAdd,Nat.reduceLT,Nat.reduceLeDiff,bigN, nn_check_spots, h, Bool.not_false]
  unfold F_in_line M_in_line
  simp only [v_bok,v_berr,v_sok,v_serr,v_nx,v_rt,v_bk,v_ct,v_er,v_ofs,v_var,v_slot_dat,v_slot_own,v_c,v_bin,v_kbin,v_op2,v_pk2,v_un,v_op1,v_pk1,v_peek_dat,v_peek_fr,v_peek_slot,v_pslot_own,v_pslot_dat,v_cnl,v_test,v_ktest,v_notT,v_knotT,v_nil,v_cons,v_kcons,v_kcons2,v_fast,v_kfast,v_all0,v_all1,v_kall,v_kall2,v_force_dat,v_force_fr,v_force_slot,v_fslot_own,v_fslot_dat,v_lst,v_klst,v_call,v_callF,v_at_ok,v_at_err,v_vB,v_atB,v_vM2,v_vM3,v_pkL,v_peeks0,v_peeks1,v_cons22,v_it_l,v_it_r,v_it_t,v_seq,v_skip,v_raise,v_drop,v_kdrop,v_ret,v_ret_dat,v_ret_fr,v_ret_slot,v_rslot_own,v_rslot_dat,v_retN,v_ifS,v_kifS1,v_kifS0,v_set,v_put_dat,v_put_fr,v_put_slot,v_kput,v_tgN,v_tgNil,v_tgCons,v_ktg,v_tgT,v_for,v_runF,v_endF_rt,v_endF_nx,v_endF_er,v_runB,v_endB_rt,v_endB_nx,v_add,v_sub,v_mod,v_neg,v_lt,v_cmp,v_eq,v_ne,v_len_l,v_len_t,v_len_r,v_ixt,v_ixl,v_ixr,v_eq_bb,v_ne_bb,v_subE_i,v_enumE_l,v_enumE_t,List.map_cons,List.map_nil,List.length_cons,List.length_nil,List.cons_append,List.nil_append,List.replicate_succ,List.replicate_zero,List.getElem?_cons_zero,List.getElem?_cons_succ,List.set_cons_zero,List.set_cons_succ,Option.map_some,Nat.reduceSub,Nat.reduceAdd,Nat.reduceLT,Nat.reduceLeDiff,bigN, nn_in_line, cs]
theorem du_comp {P : List Pt} {i j : Nat} {x0 x1 x2 x3 x4 x6 x7 x8 x9 x10 x11 x12 x13 x14 x15 x16 x17 x18 x21 x22 x23 x25 : SV} (hs : ∀ a ∈ P, Sm a) (hi : i < P.length) (hj : j < P.length) (hl : P.length ≤ 40) :
    compL [24] (tgN 24) Q_law_1 C_law_2 (wk (P.drop (j + 1))) [] [x0, x1, x2, x3, x4, .dat (.tup (wk P)), x6, x7, x8, x9, x10, x11, x12, x13, x14, x15, x16, x17, x18, .dat (.int i), .dat (.int j), x21, x22, x23, .emp, x25] = .ok (rowT P i j) [x0, x1, x2, x3, x4, .dat (.tup (wk P)), x6, x7, x8, x9, x10, x11, x12, x13, x14, x15, x16, x17, x18, .dat (.int i), .dat (.int j), x21, x22, x23, .emp, x25] := by
  have ai := nP_at hi
  have aj := nP_at hj
  refine comp_f0 (l := P.drop (j + 1)) pt (fun c => det (nP P i) (nP P j) c == 0) (tr3 (nP P i) (nP P j)) (by rw [List.length_drop]; omega) (fun c hc => ?_)
  have t := e_law_turn (c := c) (nP_sm hs hi) (nP_sm hs hj)
  refine ⟨[x0, x1, x2, x3, x4, .dat (.tup (wk P)), x6, x7, x8, x9, x10, x11, x12, x13, x14, x15, x16, x17, x18, .dat (.int i), .dat (.int j), x21, x22, x23, .dat (pt c), x25], rfl, ?_, rfl, fun _ => ?_⟩
  · simp only [v_bok,v_berr,v_sok,v_serr,v_nx,v_rt,v_bk,v_ct,v_er,v_ofs,v_var,v_slot_dat,v_slot_own,v_c,v_bin,v_kbin,v_op2,v_pk2,v_un,v_op1,v_pk1,v_peek_dat,v_peek_fr,v_peek_slot,v_pslot_own,v_pslot_dat,v_cnl,v_test,v_ktest,v_nil,v_cons,v_kcons,v_kcons2,v_fast,v_kfast,v_all0,v_all1,v_kall,v_kall2,v_force_dat,v_force_fr,v_force_slot,v_fslot_own,v_fslot_dat,v_tup,v_ktup,v_call,v_callF,v_at_ok,v_at_err,v_vB,v_atB,v_vM2,v_vM3,v_pkL,v_peeks0,v_peeks1,v_cons22,v_it_l,v_it_r,v_it_t,v_ret_dat,v_ret_fr,v_ret_slot,v_rslot_own,v_rslot_dat,v_retN,v_put_dat,v_put_fr,v_put_slot,v_kput,v_tgN,v_tgNil,v_tgCons,v_ktg,v_tgT,v_runF,v_endF_rt,v_endF_nx,v_endF_er,v_runB,v_endB_rt,v_endB_nx,v_add,v_sub,v_mod,v_neg,v_lt,v_cmp,v_eq,v_ne,v_len_l,v_len_t,v_len_r,v_ixt,v_ixl,v_ixr,v_eq_bb,v_ne_bb,v_subE_i,List.map_cons,List.map_nil,List.length_cons,List.length_nil,List.cons_append,List.nil_append,List.replicate_succ,List.replicate_zero,List.getElem?_cons_zero,List.getElem?_cons_succ,List.set_cons_zero,List.set_cons_succ,Option.map_some,Nat.reduceSub,Nat.reduceAdd,Nat.reduceLT,Nat.reduceLeDiff,bigN, Q_law_1, ai, aj, t]
  · simp only [v_bok,v_berr,v_sok,v_serr,v_nx,v_rt,v_bk,v_ct,v_er,v_ofs,v_var,v_slot_dat,v_slot_own,v_c,v_bin,v_kbin,v_op2,v_pk2,v_un,v_op1,v_pk1,v_peek_dat,v_peek_fr,v_peek_slot,v_pslot_own,v_pslot_dat,v_cnl,v_test,v_ktest,v_nil,v_cons,v_kcons,v_kcons2,v_fast,v_kfast,v_all0,v_all1,v_kall,v_kall2,v_force_dat,v_force_fr,v_force_slot,v_fslot_own,v_fslot_dat,v_tup,v_ktup,v_call,v_callF,v_at_ok,v_at_err,v_vB,v_atB,v_vM2,v_vM3,v_pkL,v_peeks0,v_peeks1,v_cons22,v_it_l,v_it_r,v_it_t,v_ret_dat,v_ret_fr,v_ret_slot,v_rslot_own,v_rslot_dat,v_retN,v_put_dat,v_put_fr,v_put_slot,v_kput,v_tgN,v_tgNil,v_tgCons,v_ktg,v_tgT,v_runF,v_endF_rt,v_endF_nx,v_endF_er,v_runB,v_endB_rt,v_endB_nx,v_add,v_sub,v_mod,v_neg,v_lt,v_cmp,v_eq,v_ne,v_len_l,v_len_t,v_len_r,v_ixt,v_ixl,v_ixr,v_eq_bb,v_ne_bb,v_subE_i,List.map_cons,List.map_nil,List.length_cons,List.length_nil,List.cons_append,List.nil_append,List.replicate_succ,List.replicate_zero,List.getElem?_cons_zero,List.getElem?_cons_succ,List.set_cons_zero,List.set_cons_succ,Option.map_some,Nat.reduceSub,Nat.reduceAdd,Nat.reduceLT,Nat.reduceLeDiff,bigN, C_law_2, ai, aj]
    rfl
theorem du_in {P : List Pt} {i : Nat} {x0 x1 x2 x3 x4 x6 x7 x8 x9 x10 x11 x12 x13 x14 x15 x16 x17 x20 x21 x22 x23 x25 : SV} (hs : ∀ a ∈ P, Sm a) (hi : i < P.length) (hl : P.length ≤ 40) :
    ∃ y20, forL (tgN 20) B_law_2 (iRow ((i + 1 : Nat) : Int) (P.length - (i + 1))) [x0, x1, x2, x3, x4, .dat (.tup (wk P)), x6, x7, x8, x9, x10, x11, x12, x13, x14, x15, x16, x17, .own (.lst (inI P i)), .dat (.int i), x20, x21, x22, x23, .emp, x25] = .nx [x0, x1, x2, x3, x4, .dat (.tup (wk P)), x6, x7, x8, x9, x10, x11, x12, x13, x14, x15, x16, x17, .own (.lst (inI P (i + 1))), .dat (.int i), y20, x21, x22, x23, .emp, x25] := by
  obtain ⟨z, r⟩ := for_st (mt := tgN 20) (mb := B_law_2) (xs := iRow ((i + 1 : Nat) : Int) (P.length - (i + 1))) (α := SV)
    (fun k z => [x0, x1, x2, x3, x4, .dat (.tup (wk P)), x6, x7, x8, x9, x10, x11, x12, x13, x14, x15, x16, x17, .own (.lst (inI P i ++ inJ P i k)), .dat (.int i), z, x21, x22, x23, .emp, x25]) (fun k x hx z => by
      rw [iRow_get] at hx
      obtain ⟨hk, rfl⟩ := hx
      have hj : i + 1 + k < P.length := by omega
      have ed' : cutD (wk P) (some (((i + 1 : Nat) : Int) + (k : Int) + 1)) none = wk (P.drop (i + 1 + k + 1)) := drop_from (i + 1 + k)
      have c := fun x18 => du_comp (x0 := x0) (x1 := x1) (x2 := x2) (x3 := x3) (x4 := x4) (x6 := x6) (x7 := x7) (x8 := x8) (x9 := x9) (x10 := x10) (x11 := x11) (x12 := x12) (x13 := x13) (x14 := x14) (x15 := x15) (x16 := x16) (x17 := x17) (x18 := x18) (x21 := x21) (x22 := x22) (x23 := x23) (x25 := x25) hs hi hj hl
      have ej : ((i + 1 + k : Nat) : Int) = ((i + 1 : Nat) : Int) + (k : Int) := rfl
      rw [ej] at c
      have l1 := inI_len hl i
      have l2 := inJ_len hl i k
      have l3 := rowT_len hl i (i + 1 + k)
      have ex : addD (.lst (inI P i ++ inJ P i k)) (.lst (rowT P i (i + 1 + k))) = some (.fr (.lst (inI P i ++ inJ P i k ++ rowT P i (i + 1 + k)))) := v_add_l (by rw [List.length_append]; omega)
      refine ⟨[x0, x1, x2, x3, x4, .dat (.tup (wk P)), x6, x7, x8, x9, x10, x11, x12, x13, x14, x15, x16, x17, .own (.lst (inI P i ++ inJ P i k)), .dat (.int i), .dat (.int (((i + 1 : Nat) : Int) + (k : Int))), x21, x22, x23, .emp, x25], .dat (.int (((i + 1 : Nat) : Int) + (k : Int))), rfl, ?_⟩
      simp only [v_bok,v_berr,v_sok,v_serr,v_nx,v_rt,v_bk,v_ct,v_er,v_ofs,v_var,v_slot_dat,v_slot_own,v_c,v_bin,v_kbin,v_op2,v_pk2,v_un,v_op1,v_pk1,v_peek_dat,v_peek_fr,v_peek_slot,v_pslot_own,v_pslot_dat,v_cnl,v_test,v_ktest,v_nil,v_cons,v_kcons,v_kcons2,v_all0,v_all1,v_kall,v_kall2,v_force_dat,v_force_fr,v_force_slot,v_fslot_own,v_fslot_dat,v_at_ok,v_at_err,v_vB,v_atB,v_vM2,v_vM3,v_pkL,v_peeks0,v_peeks1,v_cons22,v_sl,v_ksl,v_ksl2,v_ksl3,v_slE_l,v_slE_t,v_slE_r,v_some,v_ksome,v_none,v_iter,v_it_l,v_it_r,v_it_t,v_lc,v_klc,v_klc2,v_ret_dat,v_ret_fr,v_ret_slot,v_rslot_own,v_rslot_dat,v_retN,v_set,v_put_dat,v_put_fr,v_put_slot,v_kput,v_tgN,v_tgNil,v_tgCons,v_ktg,v_tgT,v_runF,v_endF_rt,v_endF_nx,v_endF_er,v_runB,v_endB_rt,v_endB_nx,v_add,v_sub,v_mod,v_neg,v_lt,v_cmp,v_eq,v_ne,v_len_l,v_len_t,v_len_r,v_ixt,v_ixl,v_ixr,v_eq_bb,v_ne_bb,v_subE_i,v_add_l,v_add_t,List.map_cons,List.map_nil,List.length_cons,List.length_nil,List.cons_append,List.nil_append,List.replicate_succ,List.replicate_zero,List.getElem?_cons_zero,List.getElem?_cons_succ,List.set_cons_zero,List.set_cons_succ,Option.map_some,Nat.reduceSub,Nat.reduceAdd,Nat.reduceLT,Nat.reduceLeDiff,bigN, B_law_2, ed', c, ex, inJ, List.append_assoc]) x20
  rw [iRow_len] at r
  refine ⟨z, ?_⟩
  have e0 : inI P i ++ inJ P i 0 = inI P i := List.append_nil _
  rw [e0] at r
  exact r
theorem du_all {P : List Pt} {x0 x1 x2 x3 x4 x6 x7 x8 x9 x10 x11 x12 x13 x14 x15 x16 x17 x19 x20 x21 x22 x23 x25 : SV} (hs : ∀ a ∈ P, Sm a) (hl : P.length ≤ 40) :
    ∃ y19 y20, forL (tgN 19) B_law_3 (iRow 0 P.length) [x0, x1, x2, x3, x4, .dat (.tup (wk P)), x6, x7, x8, x9, x10, x11, x12, x13, x14, x15, x16, x17, .own (.lst []), x19, x20, x21, x22, x23, .emp, x25] = .nx [x0, x1, x2, x3, x4, .dat (.tup (wk P)), x6, x7, x8, x9, x10, x11, x12, x13, x14, x15, x16, x17, .own (.lst (inI P P.length)), y19, y20, x21, x22, x23, .emp, x25] := by
  obtain ⟨z, r⟩ := for_st (mt := tgN 19) (mb := B_law_3) (xs := iRow 0 P.length) (α := SV × SV)
    (fun i z => [x0, x1, x2, x3, x4, .dat (.tup (wk P)), x6, x7, x8, x9, x10, x11, x12, x13, x14, x15, x16, x17, .own (.lst (inI P i)), z.1, z.2, x21, x22, x23, .emp, x25]) (fun i x hx z => by
      rw [iRow_get] at hx
      obtain ⟨hi, rfl⟩ := hx
      rw [Int.zero_add]
      obtain ⟨y20, lp⟩ := du_in (x0 := x0) (x1 := x1) (x2 := x2) (x3 := x3) (x4 := x4) (x6 := x6) (x7 := x7) (x8 := x8) (x9 := x9) (x10 := x10) (x11 := x11) (x12 := x12) (x13 := x13) (x14 := x14) (x15 := x15) (x16 := x16) (x17 := x17) (x20 := z.2) (x21 := x21) (x22 := x22) (x23 := x23) (x25 := x25) hs hi hl
      have rg : -1000000000 ≤ ((i : Int) + 1) ∧ ((i : Int) + 1) < 1000000000 ∧ -1000000000 ≤ (P.length : Int) ∧ (P.length : Int) < 1000000000 := by omega
      have n1 : ((P.length : Int) - ((i : Int) + 1)).toNat = P.length - (i + 1) := by omega
      have e0 := wk_len P
      have e1 : ((i + 1 : Nat) : Int) = (i : Int) + 1 := rfl
      rw [e1] at lp
      refine ⟨[x0, x1, x2, x3, x4, .dat (.tup (wk P)), x6, x7, x8, x9, x10, x11, x12, x13, x14, x15, x16, x17, .own (.lst (inI P i)), .dat (.int i), z.2, x21, x22, x23, .emp, x25], (.dat (.int i), y20), rfl, ?_⟩
      simp only [v_bok,v_berr,v_sok,v_serr,v_nx,v_rt,v_bk,v_ct,v_er,v_ofs,v_var,v_slot_dat,v_slot_own,v_c,v_bin,v_kbin,v_op2,v_pk2,v_un,v_op1,v_pk1,v_peek_dat,v_peek_fr,v_peek_slot,v_pslot_own,v_pslot_dat,v_cnl,v_test,v_ktest,v_nil,v_cons,v_kcons,v_kcons2,v_fast,v_kfast,v_all0,v_all1,v_kall,v_kall2,v_force_dat,v_force_fr,v_force_slot,v_fslot_own,v_fslot_dat,v_at_ok,v_at_err,v_vB,v_atB,v_vM2,v_vM3,v_cb,v_kcb,v_pkL,v_peeks0,v_peeks1,v_cons22,v_it_l,v_it_r,v_it_t,v_rng2,v_ret_dat,v_ret_fr,v_ret_slot,v_rslot_own,v_rslot_dat,v_retN,v_put_dat,v_put_fr,v_put_slot,v_kput,v_tgN,v_tgNil,v_tgCons,v_ktg,v_tgT,v_for,v_runF,v_endF_rt,v_endF_nx,v_endF_er,v_runB,v_endB_rt,v_endB_nx,v_add,v_sub,v_mod,v_neg,v_lt,v_cmp,v_eq,v_ne,v_len_l,v_len_t,v_len_r,v_ixt,v_ixl,v_ixr,v_eq_bb,v_ne_bb,v_subE_i,v_add_l,v_add_t,List.map_cons,List.map_nil,List.length_cons,List.length_nil,List.cons_append,List.nil_append,List.replicate_succ,List.replicate_zero,List.getElem?_cons_zero,List.getElem?_cons_succ,List.set_cons_zero,List.set_cons_succ,Option.map_some,Nat.reduceSub,Nat.reduceAdd,Nat.reduceLT,Nat.reduceLeDiff,bigN, B_law_3, e0, v_rng2 rg, n1, lp]) (x19, x20)
  rw [iRow_len] at r
  exact ⟨z.1, z.2, r⟩
end Lw
set_option maxHeartbeats 2000000
namespace Lw
open PySem DL
theorem good_ra (r : Int × Int) {k : Nat} : Good (k + 2) (ra r) := ⟨show 2 ≤ 100000 by decide, fun x hx => by
  simp only [List.mem_cons, List.not_mem_nil, or_false] at hx
  rcases hx with rfl | rfl <;> trivial⟩
theorem good_mtg (a b c d : Pt) : Good 6 (mtg a b c d) := by
  unfold mtg
  split
  · trivial
  · exact ⟨show 2 ≤ 100000 by decide, fun x hx => by
      simp only [List.mem_cons, List.not_mem_nil, or_false] at hx
      rcases hx with rfl | rfl
      · exact good_ra _
      · exact good_ra _⟩
abbrev Sg := Pt × Pt
def SOk (e : Sg) : Prop := Str2 e.1 e.2
def prD (e : Sg × Sg) : D := .tup [ed e.1, ed e.2]
theorem l0_body {e : Sg × Sg} {x0 x1 x2 x3 x4 x5 x6 x7 x8 x9 x10 x11 x14 x15 x16 x17 x18 x19 x20 x21 x22 x23 x24 x25 : SV} (h : SOk e.1) (h' : SOk e.2) : B_law_0 [x0, x1, x2, x3, x4, x5, x6, x7, x8, x9, x10, x11, .dat (ed e.1), .dat (ed e.2), x14, x15, x16, x17, x18, x19, x20, x21, x22, x23, x24, x25] = .nx [x0, x1, x2, x3, x4, x5, x6, x7, x8, x9, x10, x11, .dat (ed e.1), .dat (ed e.2), x14, x15, x16, x17, x18, x19, x20, x21, x22, x23, x24, x25] := by
  have t := told0 (e_meeting h h')
  have o := e_law_meeting h.sa h.sb h'.sa h'.sb
  have sm := e_same 6 _ (good_mtg e.1.1 e.1.2 e.2.1 e.2.2)
  simp only [v_bok,v_berr,v_sok,v_serr,v_nx,v_rt,v_bk,v_ct,v_er,v_ofs,v_var,v_slot_dat,v_slot_own,v_c,v_bin,v_kbin,v_op2,v_pk2,v_un,v_op1,v_pk1,v_peek_dat,v_peek_fr,v_peek_slot,v_pslot_own,v_pslot_dat,v_cnl,v_test,v_ktest,v_notT,v_knotT,v_nil,v_cons,v_kcons,v_kcons2,v_fast,v_kfast,v_all0,v_all1,v_kall,v_kall2,v_force_dat,v_force_fr,v_force_slot,v_fslot_own,v_fslot_dat,v_call,v_callF,v_at_ok,v_at_err,v_vB,v_atB,v_vM2,v_vM3,v_pkL,v_peeks0,v_peeks1,v_cons22,v_it_l,v_it_r,v_it_t,v_skip,v_ret,v_ret_dat,v_ret_fr,v_ret_slot,v_rslot_own,v_rslot_dat,v_retN,v_ifS,v_kifS1,v_kifS0,v_put_dat,v_put_fr,v_put_slot,v_kput,v_tgN,v_tgNil,v_tgCons,v_ktg,v_tgT,v_runF,v_endF_rt,v_endF_nx,v_endF_er,v_runB,v_endB_rt,v_endB_nx,v_add,v_sub,v_mod,v_neg,v_lt,v_cmp,v_eq,v_ne,v_len_l,v_len_t,v_len_r,v_ixt,v_ixl,v_ixr,v_eq_bb,v_ne_bb,v_subE_i,List.map_cons,List.map_nil,List.length_cons,List.length_nil,List.cons_append,List.nil_append,List.replicate_succ,List.replicate_zero,List.getElem?_cons_zero,List.getElem?_cons_succ,List.set_cons_zero,List.set_cons_succ,Option.map_some,Nat.reduceSub,Nat.reduceAdd,Nat.reduceLT,Nat.reduceLeDiff,bigN, B_law_0, t, o, sm, Bool.not_true]
theorem l0_loop {L : List (Sg × Sg)} {x0 x1 x2 x3 x4 x5 x6 x7 x8 x9 x10 x11 x12 x13 x14 x15 x16 x17 x18 x19 x20 x21 x22 x23 x24 x25 : SV} (h : ∀ e ∈ L, SOk e.1 ∧ SOk e.2) : ∃ y12 y13, forL (tgT 2 (tgCons (tgN 12) (tgCons (tgN 13) tgNil))) B_law_0 (L.map prD) [x0, x1, x2, x3, x4, x5, x6, x7, x8, x9, x10, x11, x12, x13, x14, x15, x16, x17, x18, x19, x20, x21, x22, x23, x24, x25] = .nx [x0, x1, x2, x3, x4, x5, x6, x7, x8, x9, x10, x11, y12, y13, x14, x15, x16, x17, x18, x19, x20, x21, x22, x23, x24, x25] := by
  obtain ⟨τ, hf, y12, y13, rfl⟩ := for_all (mt := tgT 2 (tgCons (tgN 12) (tgCons (tgN 13) tgNil))) (mb := B_law_0) (xs := L.map prD) (τ := [x0, x1, x2, x3, x4, x5, x6, x7, x8, x9, x10, x11, x12, x13, x14, x15, x16, x17, x18, x19, x20, x21, x22, x23, x24, x25])
    (fun _ τ => ∃ y12 y13, τ = [x0, x1, x2, x3, x4, x5, x6, x7, x8, x9, x10, x11, y12, y13, x14, x15, x16, x17, x18, x19, x20, x21, x22, x23, x24, x25]) ⟨x12, x13, rfl⟩ (fun i x τ hx ⟨y12, y13, eτ⟩ => by
      subst eτ
      obtain ⟨e, me, rfl⟩ := List.mem_map.mp (List.mem_of_getElem? hx)
      exact ⟨_, _, rfl, l0_body (x0 := x0) (x1 := x1) (x2 := x2) (x3 := x3) (x4 := x4) (x5 := x5) (x6 := x6) (x7 := x7) (x8 := x8) (x9 := x9) (x10 := x10) (x11 := x11) (x14 := x14) (x15 := x15) (x16 := x16) (x17 := x17) (x18 := x18) (x19 := x19) (x20 := x20) (x21 := x21) (x22 := x22) (x23 := x23) (x24 := x24) (x25 := x25) (h e me).1 (h e me).2, .dat (ed e.1), .dat (ed e.2), rfl⟩)
  exact ⟨y12, y13, hf⟩
structure Sp (S : List Pt) : Prop where
  sm : ∀ a ∈ S, Sm a
  len : S.length ≤ 20
  x : (1, 0) ∈ S
  y : (0, 3) ∈ S
theorem li_ir (x : List Int) : ¬ x < x := fun h => by
  have := (lex_iff x x).mpr h
  have n : ∀ x : List Int, HT.lexLt x x = false := fun x => by
    induction x with
    | nil => rfl
    | cons a x ih => unfold HT.lexLt; rw [if_pos rfl]; exact ih
  rw [n] at this; cases this
theorem sortP_nodup (P : List Pt) : (sortP P).Nodup := by
  have h := sortP_srt P
  have h2 : (sortP P).Pairwise (fun a b => row a < row b) := List.pairwise_map.mp h
  exact h2.imp fun {a b} z e => by subst e; exact li_ir _ z
theorem e_pair {l : List Int} {S : List Pt} (hl : nonneg l) (h : Sp S) : ∃ (e : Sg) (m : List Pt) (l' : List Int), F_law_mixed (.lst (l.map D.int)) [.lst (wk (sortP S))] = .ok (.fr (.lst (wk m))) (.lst (l'.map D.int)) ∧ wk (m.take 2) = [pt e.1, pt e.2] ∧ SOk e ∧ nonneg l' := by
  obtain ⟨l', m, r, n, pm⟩ := e_mixed (rows := sortP S) hl (by have := sortP_len S; have := h.len; omega)
  have nd : m.Nodup := pm.nodup_iff.mpr (sortP_nodup S)
  have m1 : (1, 0) ∈ m := pm.mem_iff.mpr (sortP_mem.mpr h.x)
  have m2 : (0, 3) ∈ m := pm.mem_iff.mpr (sortP_mem.mpr h.y)
  have sm : ∀ a ∈ m, Sm a := fun a ha => h.sm a (sortP_mem.mp (pm.mem_iff.mp ha))
  match m, nd, m1, m2, sm, r with
  | [], _, m1, _, _, _ => cases m1
  | [a], _, m1, m2, _, _ =>
    rw [List.mem_singleton] at m1 m2
    rw [← m1] at m2
    exact absurd m2 (by decide)
  | a :: b :: m, nd, _, _, sm, r =>
    exact ⟨(a, b), a :: b :: m, l', r, rfl, ⟨sm a (by simp), sm b (by simp), fun e => by
      have e' : a = b := e
      subst e'
      simp at nd⟩, n⟩
def thP (e : Sg) : Pt := (e.1.1 - 2 * (e.1.1 - e.2.1), e.1.2 - 2 * (e.1.2 - e.2.2))
def ab (k : Int) : Int := if k < 0 then -k else k
theorem ab_b {k : Int} : -ab k ≤ k ∧ k ≤ ab k := by unfold ab; split <;> omega
theorem max_two (a b : Int) : ∃ m, maxX [.lst [.int a, .int b]] = some (.dat (.int m)) ∧ a ≤ m ∧ b ≤ m := by
  obtain ⟨h1, h2, h3⟩ := maxF [b] a
  refine ⟨_, (rfl : maxX [.lst [.int a, .int b]] = some (.dat (.int ((maxI [a, b]).getD 0)))), ?_, ?_⟩
  · exact h2
  · exact h3 b (by simp)
theorem th_ok {e : Sg} (h : SOk e) (h1 : ab (thP e).1 ≤ 1000) (h2 : ab (thP e).2 ≤ 1000) : SOk (e.1, thP e) := by
  have a1 := ab_b (k := (thP e).1)
  have a2 := ab_b (k := (thP e).2)
  have hn := h.ne
  refine ⟨h.sa, ⟨by dsimp only; omega, by dsimp only; omega, by dsimp only; omega, by dsimp only; omega⟩, fun q => hn ?_⟩
  have q' : e.1 = thP e := q
  have q1 : e.1.1 = e.1.1 - 2 * (e.1.1 - e.2.1) := congrArg Prod.fst q'
  have q2 : e.1.2 = e.1.2 - 2 * (e.1.2 - e.2.2) := congrArg Prod.snd q'
  exact Prod.ext (by omega) (by omega)
theorem ed_ix0 (a b : Pt) : ixD (ed (a, b)) (.int 0) = some (.dat (pt a)) := by
  show (L2.atI [pt a, pt b] 0).map RV.dat = _
  rw [at0]; rfl
theorem ed_ix1 (a b : Pt) : ixD (ed (a, b)) (.int 1) = some (.dat (pt b)) := by
  show (L2.atI [pt a, pt b] 1).map RV.dat = _
  rw [at1]; rfl
theorem pt_ix0 (a : Pt) : ixD (pt a) (.int 0) = some (.dat (.int a.1)) := by
  show (L2.atI [D.int a.1, .int a.2] 0).map RV.dat = _
  rw [at0]; rfl
theorem pt_ix1 (a : Pt) : ixD (pt a) (.int 1) = some (.dat (.int a.2)) := by
  show (L2.atI [D.int a.1, .int a.2] 1).map RV.dat = _
  rw [at1]; rfl
theorem l1_body {l : List Int} {S : List Pt} {x0 x2 x3 x4 x5 x7 x8 x9 x10 x11 x12 x13 x14 x15 x16 x17 x18 x19 x20 x21 x22 x23 x24 x25 : SV} (hl : nonneg l) (h : Sp S) : ∃ (l' : List Int) (e : Sg) (y9 y10 y11 y12 y13 : SV), B_law_1 [x0, .own (.lst (l.map D.int)), x2, x3, x4, x5, .own (.lst (wk S)), x7, x8, x9, x10, x11, x12, x13, x14, x15, x16, x17, x18, x19, x20, x21, x22, .emp, x24, x25] = .nx [x0, .own (.lst (l'.map D.int)), x2, x3, x4, x5, .own (.lst (wk S)), x7, .dat (ed e), y9, y10, y11, y12, y13, x14, x15, x16, x17, x18, x19, x20, x21, x22, .emp, x24, x25] ∧ nonneg l' ∧ SOk e := by
  have ss := ss2_wk (P := S) (by have := h.len; omega)
  obtain ⟨e, m, l1, r1, w1, o1, n1⟩ := e_pair hl h
  obtain ⟨f, m', l2, r2, w2, o2, n2⟩ := e_pair n1 h
  have c1 : ∀ m : List Pt, cutD (wk m) none (some 2) = wk (m.take 2) := fun m => by rw [cut_to (by decide), wk_take]; rfl
  have tp : ∀ a b : Pt, tupleD [.lst [pt a, pt b]] = some (.dat (ed (a, b))) := fun _ _ => rfl
  have ix0 : ixD (ed e) (.int 0) = some (.dat (pt e.1)) := ed_ix0 e.1 e.2
  have ix1 : ixD (ed e) (.int 1) = some (.dat (pt e.2)) := ed_ix1 e.1 e.2
  have k1 : L2.CMul 2 (e.1.1 - e.2.1) := cL (by decide) (by decide)
  have k2 : L2.CMul 2 (e.1.2 - e.2.2) := cL (by decide) (by decide)
  have et : D.tup [.tup [.int e.1.1, .int e.1.2], .tup [.int (e.1.1 - 2 * (e.1.1 - e.2.1)), .int (e.1.2 - 2 * (e.1.2 - e.2.2))]] = ed (e.1, thP e) := rfl
  have ix2 : ixD (ed (e.1, thP e)) (.int 1) = some (.dat (pt (thP e))) := ed_ix1 _ _
  have rv : ∀ a b : Pt, rsmD (ed (a, b)) = some (.dat (ed (b, a))) := fun _ _ => rfl
  have rv' : rsmD (ed e) = some (.dat (ed (e.2, e.1))) := rv e.1 e.2
  have cp : ∀ z0 z1 z2 z3 z4 z5 z6 z7 z8 z9 z10 z11 z12 z13 z14 z15 z16 z17 z18 z19 z20 z21 z22 z24 z25 : SV, compL [23] (tgN 23) mYes C_law_0 [.int (thP e).1, .int (thP e).2] [] [z0, z1, z2, z3, z4, z5, z6, z7, z8, z9, z10, z11, z12, z13, z14, z15, z16, z17, z18, z19, z20, z21, z22, .emp, z24, z25] = .ok [.int (ab (thP e).1), .int (ab (thP e).2)] [z0, z1, z2, z3, z4, z5, z6, z7, z8, z9, z10, z11, z12, z13, z14, z15, z16, z17, z18, z19, z20, z21, z22, .emp, z24, z25] := fun z0 z1 z2 z3 z4 z5 z6 z7 z8 z9 z10 z11 z12 z13 z14 z15 z16 z17 z18 z19 z20 z21 z22 z24 z25 => by
    refine comp_a0 (l := [(thP e).1, (thP e).2]) D.int (fun i => .int (ab i)) (show 2 ≤ 900000 by decide) (fun i hi => ?_)
    refine ⟨[z0, z1, z2, z3, z4, z5, z6, z7, z8, z9, z10, z11, z12, z13, z14, z15, z16, z17, z18, z19, z20, z21, z22, .dat (.int i), z24, z25], rfl, rfl, ?_⟩
    simp only [v_bok,v_berr,v_sok,v_serr,v_nx,v_rt,v_bk,v_ct,v_er,v_ofs,v_var,v_slot_dat,v_slot_own,v_c,v_bin,v_kbin,v_op2,v_pk2,v_un,v_op1,v_pk1,v_peek_dat,v_peek_fr,v_peek_slot,v_pslot_own,v_pslot_dat,v_cnl,v_test,v_ktest,v_nil,v_cons,v_kcons,v_kcons2,v_fast,v_kfast,v_all0,v_all1,v_kall,v_kall2,v_force_dat,v_force_fr,v_force_slot,v_fslot_own,v_fslot_dat,v_tup,v_ktup,v_lst,v_klst,v_at_ok,v_at_err,v_callB,v_vown,v_kcallB,v_vB,v_atB,v_vM2,v_vM3,v_cb,v_kcb,v_pkL,v_peeks0,v_peeks1,v_cons22,v_sl,v_ksl,v_ksl2,v_ksl3,v_slE_l,v_slE_t,v_slE_r,v_some,v_ksome,v_none,v_iter,v_it_l,v_it_r,v_it_t,v_lc,v_klc,v_klc2,v_yes,v_seq,v_skip,v_ret_dat,v_ret_fr,v_ret_slot,v_rslot_own,v_rslot_dat,v_retN,v_ifS,v_kifS1,v_kifS0,v_set,v_put_dat,v_put_fr,v_put_slot,v_kput,v_tgN,v_tgNil,v_tgCons,v_ktg,v_tgT,v_for,v_runF,v_endF_rt,v_endF_nx,v_endF_er,v_runB,v_endB_rt,v_endB_nx,v_add,v_sub,v_mod,v_neg,v_lt,v_cmp,v_eq,v_ne,v_absD,v_len_l,v_len_t,v_len_r,v_ixt,v_ixl,v_ixr,v_eq_bb,v_ne_bb,v_mulE_i,v_mulE_t,v_mulE_l,v_revT,v_rsl,v_rsr,v_rst,v_max2,v_subE_i,v_subE_b,v_tuple_l,v_tuple_t,v_mSS3,v_ss3_l,v_ss3_t,v_add_l,v_add_t,v_maxX_l,List.map_cons,List.map_nil,List.length_cons,List.length_nil,List.cons_append,List.nil_append,List.replicate_succ,List.replicate_zero,List.getElem?_cons_zero,List.getElem?_cons_succ,List.set_cons_zero,List.set_cons_succ,Option.map_some,Nat.reduceSub,Nat.reduceAdd,Nat.reduceLT,Nat.reduceLeDiff,bigN, C_law_0]
    rfl
  obtain ⟨M, hM, b1, b2⟩ := max_two (ab (thP e).1) (ab (thP e).2)
  have itp : ∀ τ : DS, mIter (mC (pt (thP e))) τ = .ok [.int (thP e).1, .int (thP e).2] τ := fun τ => rfl
  have ad : addD (.lst [prD (e, f), prD (f, e), prD (e, (e.2, e.1))]) (.lst [prD (e, (e.1, thP e))]) = some (.fr (.lst [prD (e, f), prD (f, e), prD (e, (e.2, e.1)), prD (e, (e.1, thP e))])) := v_add_l (show 4 ≤ 1000000 by decide)
  have ep : ∀ a b : Sg, D.tup [ed a, ed b] = prD (a, b) := fun _ _ => rfl
  have o1r : SOk (e.2, e.1) := ⟨o1.sb, o1.sa, fun z => o1.ne z.symm⟩
  have hL3 : ∀ z ∈ [(e, f), (f, e), (e, (e.2, e.1))], SOk z.1 ∧ SOk z.2 := fun z hz => by
    simp only [List.mem_cons, List.not_mem_nil, or_false] at hz
    rcases hz with rfl | rfl | rfl
    · exact ⟨o1, o2⟩
    · exact ⟨o2, o1⟩
    · exact ⟨o1, o1r⟩
  have ptth : pt (thP e) = .tup [.int (thP e).1, .int (thP e).2] := rfl
  cases hb : decide (M ≤ 1000)
  · obtain ⟨y12, y13, lp⟩ := l0_loop (L := [(e, f), (f, e), (e, (e.2, e.1))]) (x0 := x0) (x1 := .own (.lst (l2.map D.int))) (x2 := x2) (x3 := x3) (x4 := x4) (x5 := x5) (x6 := .own (.lst (wk S))) (x7 := x7) (x8 := .dat (ed e)) (x9 := .dat (ed f)) (x10 := .dat (ed (e.1, thP e))) (x11 := .dat (.lst [prD (e, f), prD (f, e), prD (e, (e.2, e.1))])) (x12 := x12) (x13 := x13) (x14 := x14) (x15 := x15) (x16 := x16) (x17 := x17) (x18 := x18) (x19 := x19) (x20 := x20) (x21 := x21) (x22 := x22) (x23 := .emp) (x24 := x24) (x25 := x25) hL3
    rw [List.map_cons, List.map_cons, List.map_cons, List.map_nil] at lp
    refine ⟨l2, e, .dat (ed f), .dat (ed (e.1, thP e)), .dat (.lst [prD (e, f), prD (f, e), prD (e, (e.2, e.1))]), y12, y13, ?_, n2, o1⟩
    simp only [v_bok,v_berr,v_sok,v_serr,v_nx,v_rt,v_bk,v_ct,v_er,v_ofs,v_var,v_slot_dat,v_slot_own,v_c,v_bin,v_kbin,v_op2,v_pk2,v_un,v_op1,v_pk1,v_peek_dat,v_peek_fr,v_peek_slot,v_pslot_own,v_pslot_dat,v_cnl,v_test,v_ktest,v_nil,v_cons,v_kcons,v_kcons2,v_fast,v_kfast,v_all0,v_all1,v_kall,v_kall2,v_force_dat,v_force_fr,v_force_slot,v_fslot_own,v_fslot_dat,v_tup,v_ktup,v_lst,v_klst,v_at_ok,v_at_err,v_callB,v_vown,v_kcallB,v_vB,v_atB,v_vM2,v_vM3,v_cb,v_kcb,v_pkL,v_peeks0,v_peeks1,v_cons22,v_sl,v_ksl,v_ksl2,v_ksl3,v_slE_l,v_slE_t,v_slE_r,v_some,v_ksome,v_none,v_iter,v_it_l,v_it_r,v_it_t,v_lc,v_klc,v_klc2,v_yes,v_seq,v_skip,v_ret_dat,v_ret_fr,v_ret_slot,v_rslot_own,v_rslot_dat,v_retN,v_ifS,v_kifS1,v_kifS0,v_set,v_put_dat,v_put_fr,v_put_slot,v_kput,v_tgN,v_tgNil,v_tgCons,v_ktg,v_tgT,v_for,v_runF,v_endF_rt,v_endF_nx,v_endF_er,v_runB,v_endB_rt,v_endB_nx,v_add,v_sub,v_mod,v_neg,v_lt,v_cmp,v_eq,v_ne,v_absD,v_len_l,v_len_t,v_len_r,v_ixt,v_ixl,v_ixr,v_eq_bb,v_ne_bb,v_mulE_i,v_mulE_t,v_mulE_l,v_revT,v_rsl,v_rsr,v_rst,v_max2,v_subE_i,v_subE_b,v_tuple_l,v_tuple_t,v_mSS3,v_ss3_l,v_ss3_t,v_add_l,v_add_t,v_maxX_l,List.map_cons,List.map_nil,List.length_cons,List.length_nil,List.cons_append,List.nil_append,List.replicate_succ,List.replicate_zero,List.getElem?_cons_zero,List.getElem?_cons_succ,List.set_cons_zero,List.set_cons_succ,Option.map_some,Nat.reduceSub,Nat.reduceAdd,Nat.reduceLT,Nat.reduceLeDiff,bigN, B_law_1, ss, r1, r2, c1, w1, w2, tp, ix0, ix1, pt_ix0, pt_ix1, v_mulE_i k1, v_mulE_i k2, et, rv', ep, ix2, ptth, cp, hM, hb, lp]
  · have hM2 := of_decide_eq_true hb
    have o3 := th_ok o1 (by omega) (by omega)
    obtain ⟨y12, y13, lp⟩ := l0_loop (L := [(e, f), (f, e), (e, (e.2, e.1)), (e, (e.1, thP e))]) (x0 := x0) (x1 := .own (.lst (l2.map D.int))) (x2 := x2) (x3 := x3) (x4 := x4) (x5 := x5) (x6 := .own (.lst (wk S))) (x7 := x7) (x8 := .dat (ed e)) (x9 := .dat (ed f)) (x10 := .dat (ed (e.1, thP e))) (x11 := .dat (.lst [prD (e, f), prD (f, e), prD (e, (e.2, e.1)), prD (e, (e.1, thP e))])) (x12 := x12) (x13 := x13) (x14 := x14) (x15 := x15) (x16 := x16) (x17 := x17) (x18 := x18) (x19 := x19) (x20 := x20) (x21 := x21) (x22 := x22) (x23 := .emp) (x24 := x24) (x25 := x25) (fun z hz => by
      simp only [List.mem_cons, List.not_mem_nil, or_false] at hz
      rcases hz with rfl | rfl | rfl | rfl
      · exact ⟨o1, o2⟩
      · exact ⟨o2, o1⟩
      · exact ⟨o1, o1r⟩
      · exact ⟨o1, o3⟩)
    rw [List.map_cons, List.map_cons, List.map_cons, List.map_cons, List.map_nil] at lp
    refine ⟨l2, e, .dat (ed f), .dat (ed (e.1, thP e)), .dat (.lst [prD (e, f), prD (f, e), prD (e, (e.2, e.1)), prD (e, (e.1, thP e))]), y12, y13, ?_, n2, o1⟩
    simp only [v_bok,v_berr,v_sok,v_serr,v_nx,v_rt,v_bk,v_ct,v_er,v_ofs,v_var,v_slot_dat,v_slot_own,v_c,v_bin,v_kbin,v_op2,v_pk2,v_un,v_op1,v_pk1,v_peek_dat,v_peek_fr,v_peek_slot,v_pslot_own,v_pslot_dat,v_cnl,v_test,v_ktest,v_nil,v_cons,v_kcons,v_kcons2,v_fast,v_kfast,v_all0,v_all1,v_kall,v_kall2,v_force_dat,v_force_fr,v_force_slot,v_fslot_own,v_fslot_dat,v_tup,v_ktup,v_lst,v_klst,v_at_ok,v_at_err,v_callB,v_vown,v_kcallB,v_vB,v_atB,v_vM2,v_vM3,v_cb,v_kcb,v_pkL,v_peeks0,v_peeks1,v_cons22,v_sl,v_ksl,v_ksl2,v_ksl3,v_slE_l,v_slE_t,v_slE_r,v_some,v_ksome,v_none,v_iter,v_it_l,v_it_r,v_it_t,v_lc,v_klc,v_klc2,v_yes,v_seq,v_skip,v_ret_dat,v_ret_fr,v_ret_slot,v_rslot_own,v_rslot_dat,v_retN,v_ifS,v_kifS1,v_kifS0,v_set,v_put_dat,v_put_fr,v_put_slot,v_kput,v_tgN,v_tgNil,v_tgCons,v_ktg,v_tgT,v_for,v_runF,v_endF_rt,v_endF_nx,v_endF_er,v_runB,v_endB_rt,v_endB_nx,v_add,v_sub,v_mod,v_neg,v_lt,v_cmp,v_eq,v_ne,v_absD,v_len_l,v_len_t,v_len_r,v_ixt,v_ixl,v_ixr,v_eq_bb,v_ne_bb,v_mulE_i,v_mulE_t,v_mulE_l,v_revT,v_rsl,v_rsr,v_rst,v_max2,v_subE_i,v_subE_b,v_tuple_l,v_tuple_t,v_mSS3,v_ss3_l,v_ss3_t,v_add_l,v_add_t,v_maxX_l,List.map_cons,List.map_nil,List.length_cons,List.length_nil,List.cons_append,List.nil_append,List.replicate_succ,List.replicate_zero,List.getElem?_cons_zero,List.getElem?_cons_succ,List.set_cons_zero,List.set_cons_succ,Option.map_some,Nat.reduceSub,Nat.reduceAdd,Nat.reduceLT,Nat.reduceLeDiff,bigN, B_law_1, ss, r1, r2, c1, w1, w2, tp, ix0, ix1, pt_ix0, pt_ix1, v_mulE_i k1, v_mulE_i k2, et, rv', ep, ix2, ptth, cp, hM, hb, ad, lp]
theorem l1_loop {l : List Int} {S : List Pt} {x0 x2 x3 x4 x5 x7 x8 x9 x10 x11 x12 x13 x14 x15 x16 x17 x18 x19 x20 x21 x22 x23 x24 x25 : SV} (hl : nonneg l) (h : Sp S) : ∃ (l' : List Int) (e : Sg) (y7 y9 y10 y11 y12 y13 : SV), forL (tgN 7) B_law_1 (iRow 0 (5 : Int).toNat) [x0, .own (.lst (l.map D.int)), x2, x3, x4, x5, .own (.lst (wk S)), x7, x8, x9, x10, x11, x12, x13, x14, x15, x16, x17, x18, x19, x20, x21, x22, .emp, x24, x25] = .nx [x0, .own (.lst (l'.map D.int)), x2, x3, x4, x5, .own (.lst (wk S)), y7, .dat (ed e), y9, y10, y11, y12, y13, x14, x15, x16, x17, x18, x19, x20, x21, x22, .emp, x24, x25] ∧ nonneg l' ∧ SOk e := by
  obtain ⟨τ, hf, l', y7, y8, y9, y10, y11, y12, y13, rfl, n', he⟩ := for_all (mt := tgN 7) (mb := B_law_1) (xs := iRow 0 (5 : Int).toNat) (τ := [x0, .own (.lst (l.map D.int)), x2, x3, x4, x5, .own (.lst (wk S)), x7, x8, x9, x10, x11, x12, x13, x14, x15, x16, x17, x18, x19, x20, x21, x22, .emp, x24, x25])
    (fun i τ => ∃ (l' : List Int) (y7 y8 y9 y10 y11 y12 y13 : SV), τ = [x0, .own (.lst (l'.map D.int)), x2, x3, x4, x5, .own (.lst (wk S)), y7, y8, y9, y10, y11, y12, y13, x14, x15, x16, x17, x18, x19, x20, x21, x22, .emp, x24, x25] ∧ nonneg l' ∧ (i ≠ 0 → ∃ e, y8 = .dat (ed e) ∧ SOk e)) ⟨l, x7, x8, x9, x10, x11, x12, x13, rfl, hl, fun z => absurd rfl z⟩ (fun i x τ hx ⟨l', y7, y8, y9, y10, y11, y12, y13, eτ, n', _⟩ => by
      subst eτ
      obtain ⟨l2, e, z9, z10, z11, z12, z13, r, n2, o⟩ := l1_body (x0 := x0) (x2 := x2) (x3 := x3) (x4 := x4) (x5 := x5) (x7 := .dat x) (x8 := y8) (x9 := y9) (x10 := y10) (x11 := y11) (x12 := y12) (x13 := y13) (x14 := x14) (x15 := x15) (x16 := x16) (x17 := x17) (x18 := x18) (x19 := x19) (x20 := x20) (x21 := x21) (x22 := x22) (x23 := .emp) (x24 := x24) (x25 := x25) n' h
      exact ⟨_, _, rfl, r, l2, .dat x, .dat (ed e), z9, z10, z11, z12, z13, rfl, n2, fun _ => ⟨e, rfl, o⟩⟩)
  obtain ⟨e, rfl, o⟩ := he (by rw [iRow_len]; decide)
  exact ⟨l', e, y7, y9, y10, y11, y12, y13, hf, n', o⟩
end Lw
set_option maxHeartbeats 2000000
namespace Lw
open PySem DL
noncomputable def LBE : DS → SRes :=
 (mSeq
 (mSet 21 (mCallB 2 F_law_pick 1 (mCons (mLst (mCons (mC .non) (mCons (mTup (mCons (mC (.int 1001)) (mCons (mC (.int 0)) mNil))) (mCons (mTup (mCons (mC (.int 0)) mNil)) (mCons (mLst (mCons (mC (.int 0)) (mCons (mC (.int 0)) mNil))) (mCons (mTup (mCons (mC (.bl true)) (mCons (mC (.int 1)) mNil))) mNil)))))) mNil)))
 (mSeq
 (mSet 22 (mLst (mCons (mCall 3 F_law_told (mCons (mC (.int 1)) (mCons (mVar 21) (mCons (mVar 15) mNil)))) (mCons (mCall 3 F_law_told (mCons (mC (.int 1)) (mCons (mVar 14) (mCons (mBin addD (mVar 15) (mLst (mCons (mVar 21) mNil))) mNil)))) (mCons (mCall 3 F_law_told (mCons (mC (.int 0)) (mCons (mTup (mCons (mTup (mCons (mC (.int 0)) (mCons (mC (.int 0)) mNil))) (mCons (mTup (mCons (mC (.int 0)) (mCons (mC (.int 0)) mNil))) mNil))) (mCons (mVar 8) mNil)))) (mCons (mCall 3 F_law_told (mCons (mC (.int 0)) (mCons (mVar 8) (mCons (mTup (mCons (mVar 21) (mCons (mTup (mCons (mC (.int 0)) (mCons (mC (.int 0)) mNil))) mNil))) mNil)))) mNil))))))
 (mSeq
 (mSet 22 (mBin addD (mVar 22) (mLst (mCons (mCall 3 F_law_told (mCons (mC (.int 0)) (mCons (mC .non) (mCons (mVar 8) mNil)))) (mCons (mCall 3 F_law_told (mCons (mC (.int 2)) (mCons (mBin addD (mRevT (mVar 5)) (mTup (mCons (mTup (mCons (mC (.int 0)) (mCons (mC (.int 0)) mNil))) (mCons (mTup (mCons (mC (.int 0)) (mCons (mC (.int 0)) mNil))) mNil)))) (mCons (mC (.int 0)) mNil)))) (mCons (mCall 3 F_law_told (mCons (mC (.int 2)) (mCons (mCB listD (mCons (mVar 5) mNil)) (mCons (mC (.int 0)) mNil)))) mNil))))))
 (mIfS (mOrT (mNotT (mTest (mCall 2 (F_law_same 6) (mCons (mVar 22) (mCons (mBin mulE (mLst (mCons (mVar 2) mNil)) (mC (.int 7))) mNil))))) (mNotT (mTest (mCall 2 (F_law_same 6) (mCons (mCall 3 F_law_told (mCons (mC (.int 1)) (mCons (mVar 14) (mCons (mBin addD (mVar 15) (mLst (mCons (mVar 14) mNil))) mNil)))) (mCons (mVar 3) mNil)))))) (mRet (mC (.bl false))) mSkip))))
noncomputable def LBD : DS → SRes :=
 (mSeq
 (mSet 18 (mLst mNil))
 (mSeq
 (mFor (mFast (mCons (mCB lenD (mCons (mVar 5) mNil)) mNil) rng1) (tgN 19) B_law_3)
 (mSeq
 (mIfS (mNotT (mTest (mCall 2 (F_law_same 6) (mCons (mLst (mCons (mCall 3 F_law_told (mCons (mC (.int 2)) (mCons (mVar 5) (mCons (mC (.int 0)) mNil)))) (mCons (mCall 3 F_law_told (mCons (mC (.int 1)) (mCons (mVar 14) (mCons (mLst mNil) mNil)))) mNil))) (mCons (mLst (mCons (mVar 18) (mCons (mLst mNil) mNil))) mNil))))) (mRet (mC (.bl false))) mSkip)
 LBE)))
noncomputable def LBC : DS → SRes :=
 (mSeq
 (mSet 17 (mSS3 (mBin addD (mLc (mFast (mCons (mC (.int 6)) mNil) rng1) [25] (tgN 25) mYes C_law_1) (mLst (mCons (mTup (mCons (mC (.int 999)) (mCons (mC (.int 1000)) mNil))) (mCons (mTup (mCons (mC (.int 998)) (mCons (mC (.int 999)) mNil))) (mCons (mTup (mCons (mC (.int 1000)) (mCons (mC (.int 1000)) mNil))) (mCons (mTup (mCons (mUn negD (mC (.int 999))) (mCons (mUn negD (mC (.int 1000))) mNil))) (mCons (mTup (mCons (mUn negD (mC (.int 998))) (mCons (mUn negD (mC (.int 999))) mNil))) (mCons (mTup (mCons (mC (.int 997)) (mCons (mC (.int 998)) mNil))) mNil))))))))))
 (mSeq
 (mSet 17 (mCallB 2 F_law_mixed 1 (mCons (mLc (mIter (mVar 17)) [24] (tgN 24) Q_law_0 (mVar 24)) mNil)))
 (mSeq
 (mIfS (mNotT (mTest (mCall 2 (F_law_same 6) (mCons (mCall 3 F_law_told (mCons (mC (.int 1)) (mCons (mVar 14) (mCons (mVar 17) mNil)))) (mCons (mCall 2 F_law_around (mCons (mVar 14) (mCons (mVar 17) mNil))) mNil))))) (mRet (mC (.bl false))) mSkip)
 LBD)))
noncomputable def LBB : DS → SRes :=
 (mSeq
 (mSet 14 (mCallB 2 F_law_pick 1 (mCons (mLst (mCons (mCallB 2 F_law_point 1 (mCons (mC (.int 3)) mNil)) (mCons (mTup (mCons (mC (.int 0)) (mCons (mC (.int 0)) mNil))) mNil))) mNil)))
 (mSeq
 (mSet 15 (mCallB 2 F_law_mixed 1 (mCons (mLc (mIter (mVar 5)) [24] (tgN 24) Q_law_0 (mVar 24)) mNil)))
 (mSeq
 (mSet 16 (mCB listD (mCons (mVar 15) mNil)))
 (mSeq
 (mIfS (mNotT (mTest (mCall 2 (F_law_same 6) (mCons (mLst (mCons (mCall 3 F_law_told (mCons (mC (.int 1)) (mCons (mVar 14) (mCons (mVar 15) mNil)))) (mCons (mVar 15) mNil))) (mCons (mLst (mCons (mCall 2 F_law_around (mCons (mVar 14) (mCons (mVar 15) mNil))) (mCons (mVar 16) mNil))) mNil))))) (mRet (mC (.bl false))) mSkip)
 LBC))))
noncomputable def LBA : DS → SRes :=
 (mSeq
 (mSet 5 (mCallB 2 F_law_spots 1 (mCons (mCallB 2 F_law_pick 1 (mCons (mLst (mCons (mC (.int 4)) (mCons (mC (.int 8)) (mCons (mC (.int 12)) mNil)))) mNil)) mNil)))
 (mSeq
 (mSet 6 (mBin addD (mCB listD (mCons (mVar 5) mNil)) (mLst (mCons (mTup (mCons (mC (.int 1)) (mCons (mC (.int 0)) mNil))) (mCons (mTup (mCons (mC (.int 0)) (mCons (mC (.int 3)) mNil))) mNil)))))
 (mSeq
 (mFor (mFast (mCons (mC (.int 5)) mNil) rng1) (tgN 7) B_law_1)
 LBB)))
theorem LB_eq : B_law_4 = LBA := rfl
def flS : Cn := .lst (flg.map D.bl)
def fld : D := .lst (flg.map D.bl)
def flT : Cn := .lst (flgT.map D.bl)
def ftd : D := .lst (flgT.map D.bl)
def OutOk (s : D) (r : SRes) : Prop := ∃ (l' : List Int) (z2 z3 : SV) (z4 z5 z6 z7 z8 z9 z10 z11 z12 z13 z14 z15 z16 z17 z18 z19 z20 z21 z22 : SV), r = .nx [.dat s, .own (.lst (l'.map D.int)), z2, z3, z4, z5, z6, z7, z8, z9, z10, z11, z12, z13, z14, z15, z16, z17, z18, z19, z20, z21, z22, .emp, .emp, .emp] ∧ nonneg l' ∧ (z2 = .own flS ∨ z2 = .dat fld) ∧ (z3 = .own flT ∨ z3 = .dat ftd)
def BD : List D := [.non, .tup [.int 1001, .int 0], .tup [.int 0], .lst [.int 0, .int 0], .tup [.bl true, .int 1]]
theorem bd_ok : ∀ d ∈ BD, pv d = true ∧ isPt d = false := by
  intro d hd
  unfold BD at hd
  simp only [List.mem_cons, List.not_mem_nil, or_false] at hd
  rcases hd with rfl | rfl | rfl | rfl | rfl <;> decide +kernel
theorem good_fl {k : Nat} {f : List Bool} (h : f.length ≤ 100) : Good (k + 2) (.lst (f.map D.bl)) := ⟨by rw [List.length_map]; omega, fun x hx => by
  obtain ⟨b, _, rfl⟩ := List.mem_map.mp hx
  trivial⟩
theorem asc_no (l : List Pt) : asc (l ++ [(0, 0), (0, 0)]) = false := by
  cases h : asc (l ++ [(0, 0), (0, 0)]) with
  | false => rfl
  | true =>
    have h1 := (asc_srt _).mp h
    rw [List.map_append, List.pairwise_append] at h1
    have h2 := (List.pairwise_cons.mp h1.2.1).1 (row (0, 0)) (by simp)
    exact absurd h2 (li_ir _)
theorem l_E {s : D} {l : List Int} {P Q : List Pt} {e : Sg} {c : Pt} {x2 x3 x4 x6 x7 x9 x10 x11 x12 x13 x16 x17 x18 x19 x20 x21 x22 : SV} (hl : nonneg l) (hs : ∀ a ∈ P, Sm a) (hP : P.length ≤ 40) (he : SOk e) (hc : Sm c) (hq : ∀ p ∈ Q, Aw c p) (hQ : Q.length ≤ 40) (h2 : x2 = .own flS ∨ x2 = .dat fld) (h3 : x3 = .own flT ∨ x3 = .dat ftd) :
    OutOk s (LBE [.dat s, .own (.lst (l.map D.int)), x2, x3, x4, .dat (.tup (wk P)), x6, x7, .dat (ed e), x9, x10, x11, x12, x13, .dat (pt c), .dat (.lst (wk Q)), x16, x17, x18, x19, x20, x21, x22, .emp, .emp, .emp]) := by
  obtain ⟨v, l1, p1, m1, n1⟩ := e_pick (l := l) (ds := BD) (by unfold BD; simp) hl
  obtain ⟨v1, v2⟩ := bd_ok v m1
  have qs : ∀ p ∈ Q, Sm p := fun p hp => (hq p hp).sp
  have pvQ : ∀ x ∈ wk Q, pv x = true := fun x hx => by obtain ⟨a, _, rfl⟩ := List.mem_map.mp hx; rfl
  have t1 := told1_e (e_around_no (d := v) (es := wk Q) (fun x hx => by
    rcases List.mem_cons.mp hx with rfl | hx
    · exact v1
    · exact pvQ x hx) (by rw [List.all_cons, v2]; rfl) (by rw [wk_len]; omega))
  have t2 := told1_e (e_around_no (d := pt c) (es := wk Q ++ [v]) (fun x hx => by
    rcases List.mem_cons.mp hx with rfl | hx
    · rfl
    · rcases List.mem_append.mp hx with hx | hx
      · exact pvQ x hx
      · rw [List.mem_singleton.mp hx]; exact v1) (by rw [List.all_cons, List.all_append, List.all_cons, v2]; simp) (by rw [List.length_append, wk_len, List.length_singleton]; omega))
  have s0 : Sm (0, 0) := by unfold Sm; decide
  have z00 : F_is_stretch [ed ((0, 0), (0, 0))] = .ok (.dat (.bl false)) := by
    have := e_is_stretch s0 s0
    rw [decide_eq_true (rfl : ((0, 0) : Pt) = (0, 0))] at this
    exact this
  have t3 : F_law_told [.int 0, .tup [.tup [.int 0, .int 0], .tup [.int 0, .int 0]], ed e] = .ok (.fr (.lst (flg.map D.bl))) := told0_e (e_meeting_no z00 (e_st he) rfl)
  have bs : F_is_stretch [.tup [v, pt (0, 0)]] = .ok (.dat (.bl false)) := e_is_stretch_bad (es := [v, pt (0, 0)]) (fun d hd => by
    simp only [List.mem_cons, List.not_mem_nil, or_false] at hd
    rcases hd with rfl | rfl
    · exact v1
    · rfl) (show 2 ≤ 1000 by decide) (by rw [List.all_cons, v2]; rfl)
  have t4 : F_law_told [.int 0, ed e, .tup [v, .tup [.int 0, .int 0]]] = .ok (.fr (.lst (flg.map D.bl))) := told0_e (e_meeting_no (e_st he) bs rfl)
  have t5 : F_law_told [.int 0, .non, ed e] = .ok (.fr (.lst (flg.map D.bl))) := told0_e (e_meeting_no (e_is_stretch_no (.inl rfl)) (e_st he) rfl)
  have a6 : F_are_spots [.tup (wk (P.reverse ++ [(0, 0), (0, 0)]))] = .ok (.dat (.bl false)) := by
    have := e_as (l := P.reverse ++ [(0, 0), (0, 0)]) (by rw [List.length_append, List.length_reverse]; simp only [List.length_cons, List.length_nil]; omega) (fun a ha => by
      rcases List.mem_append.mp ha with z | z
      · exact hs a (List.mem_reverse.mp z)
      · simp only [List.mem_cons, List.not_mem_nil, or_false, or_self] at z
        rw [z]; exact s0)
    rw [this]
    unfold spB
    rw [asc_no]
    cases decide (((P.reverse ++ [(0, 0), (0, 0)]).length : Int) > 60) <;> rfl
  have t6 := told2_e (b := .int 0) (e_in_line_no a6)
  have t7 := told2_e (b := .int 0) (e_in_line_no (e_as_no (d := .lst (wk P)) (.inr ⟨_, rfl⟩)))
  have hqc : ∀ p ∈ Q ++ [c], Sm p := fun p hp => by
    rcases List.mem_append.mp hp with z | z
    · exact qs p z
    · rw [List.mem_singleton.mp z]; exact hc
  have t8 := told1_3 (e_around_in (P := Q ++ [c]) hc hqc (by simp) (by rw [List.length_append, List.length_singleton]; omega))
  have w1 : wk (Q ++ [c]) = wk Q ++ [pt c] := wk_app _ _
  have w2 : wk (P.reverse ++ [(0, 0), (0, 0)]) = wk P.reverse ++ [.tup [.int 0, .int 0], .tup [.int 0, .int 0]] := wk_app _ _
  rw [w1] at t8
  rw [w2] at t6
  have r1 : rsmD (.tup (wk P)) = some (.dat (.tup (wk P.reverse))) := by
    show some (RV.dat (D.tup (wk P).reverse)) = _
    unfold wk; rw [List.map_reverse]
  have ad1 : addD (.lst (wk Q)) (.lst [v]) = some (.fr (.lst (wk Q ++ [v]))) := v_add_l (by rw [wk_len, List.length_singleton]; omega)
  have ad2 : addD (.tup (wk P.reverse)) (.tup [.tup [.int 0, .int 0], .tup [.int 0, .int 0]]) = some (.dat (.tup (wk P.reverse ++ [.tup [.int 0, .int 0], .tup [.int 0, .int 0]]))) := v_add_t (by rw [wk_len, List.length_reverse]; simp only [List.length_cons, List.length_nil]; omega)
  have ad3 : addD (.lst (wk Q)) (.lst [pt c]) = some (.fr (.lst (wk Q ++ [pt c]))) := v_add_l (by rw [wk_len, List.length_singleton]; omega)
  have ls : listD [.tup (wk P)] = some (.fr (.lst (wk P))) := rfl
  have ad : ∀ z1 z2 z3 z4 y1 y2 y3 : D, addD (.lst [z1, z2, z3, z4]) (.lst [y1, y2, y3]) = some (.fr (.lst [z1, z2, z3, z4, y1, y2, y3])) := fun _ _ _ _ _ _ _ => v_add_l (show 7 ≤ 1000000 by decide)
  have mu : mulE (.lst [.lst (flg.map D.bl)]) (.int 7) = some (.fr (.lst [.lst (flg.map D.bl), .lst (flg.map D.bl), .lst (flg.map D.bl), .lst (flg.map D.bl), .lst (flg.map D.bl), .lst (flg.map D.bl), .lst (flg.map D.bl)])) := v_mulE_l ⟨by decide, by decide, by show 1 * 7 ≤ 1000000; decide⟩
  have sm : F_law_same 6 [.lst [.lst (flg.map D.bl), .lst (flg.map D.bl), .lst (flg.map D.bl), .lst (flg.map D.bl), .lst (flg.map D.bl), .lst (flg.map D.bl), .lst (flg.map D.bl)], .lst [.lst (flg.map D.bl), .lst (flg.map D.bl), .lst (flg.map D.bl), .lst (flg.map D.bl), .lst (flg.map D.bl), .lst (flg.map D.bl), .lst (flg.map D.bl)]] = .ok (.dat (.bl true)) := e_same 6 _ ⟨show 7 ≤ 100000 by decide, fun y hy => by
    simp only [List.mem_cons, List.not_mem_nil, or_false, or_self] at hy
    rw [hy]
    exact good_fl (show 5 ≤ 100 by decide)⟩
  have sm2 : F_law_same 6 [.lst (flgT.map D.bl), .lst (flgT.map D.bl)] = .ok (.dat (.bl true)) := e_same 6 _ (good_fl (show 5 ≤ 100 by decide))
  have efs : flS = .lst (flg.map D.bl) := rfl
  have efd : fld = .lst (flg.map D.bl) := rfl
  have efT : flT = .lst (flgT.map D.bl) := rfl
  have eft : ftd = .lst (flgT.map D.bl) := rfl
  have eb : BD = [.non, .tup [.int 1001, .int 0], .tup [.int 0], .lst [.int 0, .int 0], .tup [.bl true, .int 1]] := rfl
  rw [eb] at p1
  unfold OutOk
  refine ⟨l1, .dat fld, .dat ftd, x4, .dat (.tup (wk P)), x6, x7, .dat (ed e), x9, x10, x11, x12, x13, .dat (pt c), .dat (.lst (wk Q)), x16, x17, x18, x19, x20, .dat v, .dat (.lst [.lst (flg.map D.bl), .lst (flg.map D.bl), .lst (flg.map D.bl), .lst (flg.map D.bl), .lst (flg.map D.bl), .lst (flg.map D.bl), .lst (flg.map D.bl)]), ?_, n1, .inr rfl, .inr rfl⟩
  unfold LBE
  rw [efd, eft]
  have c2 : ∃ y2 : SV, x2 = y2 ∧ (y2 = .own (.lst (flg.map D.bl)) ∨ y2 = .dat (.lst (flg.map D.bl))) := ⟨x2, rfl, h2⟩
  have c3 : ∃ y3 : SV, x3 = y3 ∧ (y3 = .own (.lst (flgT.map D.bl)) ∨ y3 = .dat (.lst (flgT.map D.bl))) := ⟨x3, rfl, h3⟩
  obtain ⟨y2, rfl, h2⟩ := c2
  obtain ⟨y3, rfl, h3⟩ := c3
  rcases h2 with rfl | rfl <;> rcases h3 with rfl | rfl <;>
    simp only [v_bok,v_berr,v_sok,v_serr,v_nx,v_rt,v_bk,v_ct,v_er,v_ofs,v_var,v_slot_dat,v_slot_own,v_c,v_bin,v_kbin,v_op2,v_pk2,v_un,v_op1,v_pk1,v_peek_dat,v_peek_fr,v_peek_slot,v_pslot_own,v_pslot_dat,v_cnl,v_test,v_ktest,v_orT,v_kor1,v_kor0,v_notT,v_knotT,v_nil,v_cons,v_kcons,v_kcons2,v_fast,v_kfast,v_all0,v_all1,v_kall,v_kall2,v_force_dat,v_force_fr,v_force_slot,v_fslot_own,v_fslot_dat,v_tup,v_ktup,v_lst,v_klst,v_call,v_callF,v_at_ok,v_at_err,v_callB,v_vown,v_kcallB,v_vB,v_atB,v_vM2,v_vM3,v_cb,v_kcb,v_pkL,v_peeks0,v_peeks1,v_cons22,v_it_l,v_it_r,v_it_t,v_seq,v_skip,v_ret,v_ret_dat,v_ret_fr,v_ret_slot,v_rslot_own,v_rslot_dat,v_retN,v_ifS,v_kifS1,v_kifS0,v_set,v_put_dat,v_put_fr,v_put_slot,v_kput,v_tgN,v_tgNil,v_tgCons,v_ktg,v_tgT,v_runF,v_endF_rt,v_endF_nx,v_endF_er,v_runB,v_endB_rt,v_endB_nx,v_add,v_sub,v_mod,v_neg,v_lt,v_cmp,v_eq,v_ne,v_len_l,v_len_t,v_len_r,v_list_l,v_list_t,v_ixt,v_ixl,v_ixr,v_eq_bb,v_ne_bb,v_mulE_i,v_mulE_t,v_mulE_l,v_revT,v_rsl,v_rsr,v_rst,v_subE_i,v_add_l,v_add_t,List.map_cons,List.map_nil,List.length_cons,List.length_nil,List.cons_append,List.nil_append,List.replicate_succ,List.replicate_zero,List.getElem?_cons_zero,List.getElem?_cons_succ,List.set_cons_zero,List.set_cons_succ,Option.map_some,Nat.reduceSub,Nat.reduceAdd,Nat.reduceLT,Nat.reduceLeDiff,bigN, p1, t1, t2, t3, t4, t5, t6, t7, t8, r1, ad1, ad2, ad3, ls, ad, mu, sm, sm2, Bool.not_true]
end Lw
set_option maxHeartbeats 2000000
namespace Lw
open PySem DL
theorem good_tr {ds : List D} (h : ∀ d ∈ ds, Good 4 d) (hl : ds.length ≤ 100000) : Good 5 (.lst ds) := ⟨hl, h⟩
theorem rowT_good (P : List Pt) (i j : Nat) : ∀ d ∈ rowT P i j, Good 4 d := fun d hd => by
  obtain ⟨c, _, rfl⟩ := List.mem_map.mp hd
  exact ⟨show 3 ≤ 100000 by decide, fun x hx => by
    simp only [List.mem_cons, List.not_mem_nil, or_false] at hx
    rcases hx with rfl | rfl | rfl <;> exact good_pt⟩
theorem inJ_good (P : List Pt) (i : Nat) : ∀ k, ∀ d ∈ inJ P i k, Good 4 d
  | 0, d, h => nomatch h
  | k + 1, d, h => by
    rcases List.mem_append.mp h with z | z
    · exact inJ_good P i k d z
    · exact rowT_good P i _ d z
theorem inI_good (P : List Pt) : ∀ i, ∀ d ∈ inI P i, Good 4 d
  | 0, d, h => nomatch h
  | i + 1, d, h => by
    rcases List.mem_append.mp h with z | z
    · exact inI_good P i d z
    · exact inJ_good P i _ d z
theorem good_l2 {a b : D} {k : Nat} (h : Good k a) (h' : Good k b) : Good (k + 1) (.lst [a, b]) := ⟨show 2 ≤ 100000 by decide, fun x hx => by
  simp only [List.mem_cons, List.not_mem_nil, or_false] at hx
  rcases hx with rfl | rfl
  · exact h
  · exact h'⟩
theorem l_D {s : D} {l : List Int} {P Q : List Pt} {e : Sg} {c : Pt} {x2 x3 x4 x6 x7 x9 x10 x11 x12 x13 x16 x17 x18 x19 x20 x21 x22 : SV} (hl : nonneg l) (hs : ∀ a ∈ P, Sm a) (ha : asc P = true) (hP : P.length ≤ 40) (he : SOk e) (hc : Sm c) (hq : ∀ p ∈ Q, Aw c p) (hQ : Q.length ≤ 40) (h2 : x2 = .own flS ∨ x2 = .dat fld) (h3 : x3 = .own flT ∨ x3 = .dat ftd) :
    OutOk s (LBD [.dat s, .own (.lst (l.map D.int)), x2, x3, x4, .dat (.tup (wk P)), x6, x7, .dat (ed e), x9, x10, x11, x12, x13, .dat (pt c), .dat (.lst (wk Q)), x16, x17, x18, x19, x20, x21, x22, .emp, .emp, .emp]) := by
  obtain ⟨y19, y20, lp⟩ := du_all (P := P) (x0 := .dat s) (x1 := .own (.lst (l.map D.int))) (x2 := x2) (x3 := x3) (x4 := x4) (x6 := x6) (x7 := x7) (x8 := .dat (ed e)) (x9 := x9) (x10 := x10) (x11 := x11) (x12 := x12) (x13 := x13) (x14 := .dat (pt c)) (x15 := .dat (.lst (wk Q))) (x16 := x16) (x17 := x17) (x19 := x19) (x20 := x20) (x21 := x21) (x22 := x22) (x23 := .emp) (x25 := .emp) hs hP
  have e0 := wk_len P
  have r0 : -1000000000 ≤ (P.length : Int) ∧ (P.length : Int) < 1000000000 := by omega
  have r1 : (P.length : Int).toNat = P.length := by omega
  have t1 := told2 (b := .int 0) (e_in_line hs ha hP)
  have ea := e_around (c := c) (P := []) hc (fun _ h => nomatch h) (by decide)
  have t2 : F_law_told [.int 1, pt c, .lst []] = .ok (.fr (.lst [])) := told1 ea
  have gi : Good 5 (.lst (inI P P.length)) := good_tr (inI_good P _) (by have := inI_len hP P.length; omega)
  have sm : F_law_same 6 [.lst [.lst (inI P P.length), .lst []], .lst [.lst (inI P P.length), .lst []]] = .ok (.dat (.bl true)) := e_same 6 _ (good_l2 gi ⟨show 0 ≤ 100000 by decide, fun _ h => nomatch h⟩)
  have r := l_E (s := s) (l := l) (P := P) (Q := Q) (e := e) (c := c) (x2 := x2) (x3 := x3) (x4 := x4) (x6 := x6) (x7 := x7) (x9 := x9) (x10 := x10) (x11 := x11) (x12 := x12) (x13 := x13) (x16 := x16) (x17 := x17) (x18 := .dat (.lst (inI P P.length))) (x19 := y19) (x20 := y20) (x21 := x21) (x22 := x22) hl hs hP he hc hq hQ h2 h3
  have e : LBD [.dat s, .own (.lst (l.map D.int)), x2, x3, x4, .dat (.tup (wk P)), x6, x7, .dat (ed e), x9, x10, x11, x12, x13, .dat (pt c), .dat (.lst (wk Q)), x16, x17, x18, x19, x20, x21, x22, .emp, .emp, .emp] = LBE [.dat s, .own (.lst (l.map D.int)), x2, x3, x4, .dat (.tup (wk P)), x6, x7, .dat (ed e), x9, x10, x11, x12, x13, .dat (pt c), .dat (.lst (wk Q)), x16, x17, .dat (.lst (inI P P.length)), y19, y20, x21, x22, .emp, .emp, .emp] := by
    unfold LBD
    simp only [v_bok,v_berr,v_sok,v_serr,v_nx,v_rt,v_bk,v_ct,v_er,v_ofs,v_var,v_slot_dat,v_slot_own,v_c,v_bin,v_kbin,v_op2,v_pk2,v_un,v_op1,v_pk1,v_peek_dat,v_peek_fr,v_peek_slot,v_pslot_own,v_pslot_dat,v_cnl,v_test,v_ktest,v_orT,v_kor1,v_kor0,v_notT,v_knotT,v_nil,v_cons,v_kcons,v_kcons2,v_fast,v_kfast,v_all0,v_all1,v_kall,v_kall2,v_force_dat,v_force_fr,v_force_slot,v_fslot_own,v_fslot_dat,v_tup,v_ktup,v_lst,v_klst,v_call,v_callF,v_at_ok,v_at_err,v_callB,v_vown,v_kcallB,v_vB,v_atB,v_vM2,v_vM3,v_cb,v_kcb,v_pkL,v_peeks0,v_peeks1,v_cons22,v_it_l,v_it_r,v_it_t,v_rng1,v_seq,v_skip,v_ret,v_ret_dat,v_ret_fr,v_ret_slot,v_rslot_own,v_rslot_dat,v_retN,v_ifS,v_kifS1,v_kifS0,v_set,v_put_dat,v_put_fr,v_put_slot,v_kput,v_tgN,v_tgNil,v_tgCons,v_ktg,v_tgT,v_for,v_runF,v_endF_rt,v_endF_nx,v_endF_er,v_runB,v_endB_rt,v_endB_nx,v_add,v_sub,v_mod,v_neg,v_lt,v_cmp,v_eq,v_ne,v_len_l,v_len_t,v_len_r,v_list_l,v_list_t,v_ixt,v_ixl,v_ixr,v_eq_bb,v_ne_bb,v_mulE_i,v_mulE_t,v_mulE_l,v_revT,v_rsl,v_rsr,v_rst,v_subE_i,v_add_l,v_add_t,List.map_cons,List.map_nil,List.length_cons,List.length_nil,List.cons_append,List.nil_append,List.replicate_succ,List.replicate_zero,List.getElem?_cons_zero,List.getElem?_cons_succ,List.set_cons_zero,List.set_cons_succ,Option.map_some,Nat.reduceSub,Nat.reduceAdd,Nat.reduceLT,Nat.reduceLeDiff,bigN, e0, v_rng1 r0, r1, lp, t1, t2, sm, Bool.not_true]
  rw [e]
  exact r
theorem ne_comp {c : Pt} {P : List Pt} {x0 x1 x2 x3 x4 x5 x6 x7 x8 x9 x10 x11 x12 x13 x15 x16 x17 x18 x19 x20 x21 x22 x23 x25 : SV} (hl : P.length ≤ 1000) : compL [24] (tgN 24) Q_law_0 (mVar 24) (wk P) [] [x0, x1, x2, x3, x4, x5, x6, x7, x8, x9, x10, x11, x12, x13, .dat (pt c), x15, x16, x17, x18, x19, x20, x21, x22, x23, .emp, x25] = .ok (wk (P.filter fun p => !decide (p = c))) [x0, x1, x2, x3, x4, x5, x6, x7, x8, x9, x10, x11, x12, x13, .dat (pt c), x15, x16, x17, x18, x19, x20, x21, x22, x23, .emp, x25] := by
  refine comp_f0 (l := P) pt (fun p => !decide (p = c)) pt (by omega) (fun p hp => ?_)
  refine ⟨[x0, x1, x2, x3, x4, x5, x6, x7, x8, x9, x10, x11, x12, x13, .dat (pt c), x15, x16, x17, x18, x19, x20, x21, x22, x23, .dat (pt p), x25], rfl, ?_, rfl, fun _ => rfl⟩
  simp only [v_bok,v_berr,v_sok,v_serr,v_nx,v_rt,v_bk,v_ct,v_er,v_ofs,v_var,v_slot_dat,v_slot_own,v_c,v_bin,v_kbin,v_op2,v_pk2,v_un,v_op1,v_pk1,v_peek_dat,v_peek_fr,v_peek_slot,v_pslot_own,v_pslot_dat,v_cnl,v_test,v_ktest,v_nil,v_cons,v_kcons,v_kcons2,v_all0,v_all1,v_kall,v_kall2,v_force_dat,v_force_fr,v_force_slot,v_fslot_own,v_fslot_dat,v_at_ok,v_at_err,v_vB,v_atB,v_vM2,v_vM3,v_pkL,v_peeks0,v_peeks1,v_cons22,v_it_l,v_it_r,v_it_t,v_ret_dat,v_ret_fr,v_ret_slot,v_rslot_own,v_rslot_dat,v_retN,v_put_dat,v_put_fr,v_put_slot,v_kput,v_tgN,v_tgNil,v_tgCons,v_ktg,v_tgT,v_runF,v_endF_rt,v_endF_nx,v_endF_er,v_runB,v_endB_rt,v_endB_nx,v_add,v_sub,v_mod,v_neg,v_lt,v_cmp,v_eq,v_ne,v_len_l,v_len_t,v_len_r,v_ixt,v_ixl,v_ixr,v_eq_bb,v_ne_bb,v_subE_i,List.map_cons,List.map_nil,List.length_cons,List.length_nil,List.cons_append,List.nil_append,List.replicate_succ,List.replicate_zero,List.getElem?_cons_zero,List.getElem?_cons_succ,List.set_cons_zero,List.set_cons_succ,Option.map_some,Nat.reduceSub,Nat.reduceAdd,Nat.reduceLT,Nat.reduceLeDiff,bigN, Q_law_0, ne_pt]
theorem rnd_len (c : Pt) (P : List Pt) : (rndL c P).length = P.length := by
  have := (rnd_fold c P [] List.Pairwise.nil).2.length_eq
  rwa [List.append_nil] at this
theorem aw_of {c : Pt} {P m : List Pt} (hc : Sm c) (hs : ∀ a ∈ P, Sm a) (h : m.Perm (P.filter fun p => !decide (p = c))) : ∀ p ∈ m, Aw c p := fun p hp => by
  obtain ⟨h1, h2⟩ := List.mem_filter.mp (h.mem_iff.mp hp)
  exact ⟨hc, hs p h1, by simpa using h2⟩
def CW : List Pt := [(999, 1000), (998, 999), (1000, 1000), (-999, -1000), (-998, -999), (997, 998)]
theorem wide_comp {l : List Int} {x0 x2 x3 x4 x5 x6 x7 x8 x9 x10 x11 x12 x13 x14 x15 x16 x17 x18 x19 x20 x21 x22 x23 x24 : SV} (hl : nonneg l) : ∃ (W : List Pt) (l' : List Int), compL [25] (tgN 25) mYes C_law_1 (iRow 0 (6 : Int).toNat) [] [x0, .own (.lst (l.map D.int)), x2, x3, x4, x5, x6, x7, x8, x9, x10, x11, x12, x13, x14, x15, x16, x17, x18, x19, x20, x21, x22, x23, x24, .emp] = .ok (wk W) [x0, .own (.lst (l'.map D.int)), x2, x3, x4, x5, x6, x7, x8, x9, x10, x11, x12, x13, x14, x15, x16, x17, x18, x19, x20, x21, x22, x23, x24, .emp] ∧ (∀ a ∈ W, Sm a) ∧ W.length = 6 ∧ nonneg l' := by
  obtain ⟨ds, τ, r, l2, W, rfl, n2, rfl, sW, hW⟩ := comp_st (vs := [25]) (mt := tgN 25) (mc := mYes) (me := C_law_1) (xs := iRow 0 (6 : Int).toNat) (τ := [x0, .own (.lst (l.map D.int)), x2, x3, x4, x5, x6, x7, x8, x9, x10, x11, x12, x13, x14, x15, x16, x17, x18, x19, x20, x21, x22, x23, x24, .emp])
    (fun i acc τ => ∃ (l2 : List Int) (P : List Pt), τ = [x0, .own (.lst (l2.map D.int)), x2, x3, x4, x5, x6, x7, x8, x9, x10, x11, x12, x13, x14, x15, x16, x17, x18, x19, x20, x21, x22, x23, x24, .emp] ∧ nonneg l2 ∧ acc = wk P ∧ (∀ a ∈ P, Sm a) ∧ P.length = i) ⟨l, [], rfl, hl, rfl, (fun _ h => nomatch h), rfl⟩
    (fun i x acc τ hx ⟨l2, P, eτ, n2, ea, sP, hP⟩ => by
      subst eτ ea
      obtain ⟨v2, l3, t2, b1, b2, n3⟩ := e_take (l := l2) (b := 2001) (by decide) n2
      obtain ⟨v3, l4, t3, b3, b4, n4⟩ := e_take (l := l3) (b := 2001) (by decide) n3
      refine ⟨[x0, .own (.lst (l2.map D.int)), x2, x3, x4, x5, x6, x7, x8, x9, x10, x11, x12, x13, x14, x15, x16, x17, x18, x19, x20, x21, x22, x23, x24, .dat x], [x0, .own (.lst (l2.map D.int)), x2, x3, x4, x5, x6, x7, x8, x9, x10, x11, x12, x13, x14, x15, x16, x17, x18, x19, x20, x21, x22, x23, x24, .dat x], .dat (pt (v2 - 1000, v3 - 1000)), [x0, .own (.lst (l4.map D.int)), x2, x3, x4, x5, x6, x7, x8, x9, x10, x11, x12, x13, x14, x15, x16, x17, x18, x19, x20, x21, x22, x23, x24, .dat x], pt (v2 - 1000, v3 - 1000), [x0, .own (.lst (l4.map D.int)), x2, x3, x4, x5, x6, x7, x8, x9, x10, x11, x12, x13, x14, x15, x16, x17, x18, x19, x20, x21, x22, x23, x24, .dat x], rfl, rfl, ?_, rfl, l4, P ++ [(v2 - 1000, v3 - 1000)], rfl, n4, ?_, ?_, ?_⟩
      · unfold pt
        simp only [v_bok,v_berr,v_sok,v_serr,v_nx,v_rt,v_bk,v_ct,v_er,v_ofs,v_var,v_slot_dat,v_slot_own,v_c,v_bin,v_kbin,v_op2,v_pk2,v_un,v_op1,v_pk1,v_peek_dat,v_peek_fr,v_peek_slot,v_pslot_own,v_pslot_dat,v_cnl,v_test,v_ktest,v_nil,v_cons,v_kcons,v_kcons2,v_fast,v_kfast,v_all0,v_all1,v_kall,v_kall2,v_force_dat,v_force_fr,v_force_slot,v_fslot_own,v_fslot_dat,v_tup,v_ktup,v_at_ok,v_at_err,v_callB,v_vown,v_kcallB,v_vB,v_atB,v_vM2,v_vM3,v_pkL,v_peeks0,v_peeks1,v_cons22,v_it_l,v_it_r,v_it_t,v_yes,v_ret_dat,v_ret_fr,v_ret_slot,v_rslot_own,v_rslot_dat,v_retN,v_put_dat,v_put_fr,v_put_slot,v_kput,v_tgN,v_tgNil,v_tgCons,v_ktg,v_tgT,v_runF,v_endF_rt,v_endF_nx,v_endF_er,v_runB,v_endB_rt,v_endB_nx,v_add,v_sub,v_mod,v_neg,v_lt,v_cmp,v_eq,v_ne,v_len_l,v_len_t,v_len_r,v_ixt,v_ixl,v_ixr,v_eq_bb,v_ne_bb,v_subE_i,v_subE_b,List.map_cons,List.map_nil,List.length_cons,List.length_nil,List.cons_append,List.nil_append,List.replicate_succ,List.replicate_zero,List.getElem?_cons_zero,List.getElem?_cons_succ,List.set_cons_zero,List.set_cons_succ,Option.map_some,Nat.reduceSub,Nat.reduceAdd,Nat.reduceLT,Nat.reduceLeDiff,bigN, C_law_1, t2, t3]
      · unfold wk; rw [List.map_append]; rfl
      · intro a ha
        rcases List.mem_append.mp ha with q | q
        · exact sP a q
        · rw [List.mem_singleton.mp q]
          exact ⟨by dsimp only; omega, by dsimp only; omega, by dsimp only; omega, by dsimp only; omega⟩
      · simp [hP]) (by decide) (fun i acc τ ⟨l2, P, _, _, ea, _, hP⟩ => by rw [ea]; unfold wk; rw [List.length_map]; exact hP)
  rw [iRow_len] at hW
  exact ⟨W, l2, r, sW, hW, n2⟩
theorem cw_sm : ∀ a ∈ CW, Sm a := fun a ha => by
  unfold CW at ha
  simp only [List.mem_cons, List.not_mem_nil, or_false] at ha
  rcases ha with rfl | rfl | rfl | rfl | rfl | rfl <;> (unfold Sm; decide)
theorem l_C {s : D} {l : List Int} {P Q : List Pt} {e : Sg} {c : Pt} {x2 x3 x4 x6 x7 x9 x10 x11 x12 x13 x16 x17 x18 x19 x20 x21 x22 : SV} (hl : nonneg l) (hs : ∀ a ∈ P, Sm a) (ha : asc P = true) (hP : P.length ≤ 40) (he : SOk e) (hc : Sm c) (hq : ∀ p ∈ Q, Aw c p) (hQ : Q.length ≤ 40) (h2 : x2 = .own flS ∨ x2 = .dat fld) (h3 : x3 = .own flT ∨ x3 = .dat ftd) :
    OutOk s (LBC [.dat s, .own (.lst (l.map D.int)), x2, x3, x4, .dat (.tup (wk P)), x6, x7, .dat (ed e), x9, x10, x11, x12, x13, .dat (pt c), .dat (.lst (wk Q)), x16, x17, x18, x19, x20, x21, x22, .emp, .emp, .emp]) := by
  obtain ⟨W, l1, cw, sW, hW, n1⟩ := wide_comp (x0 := .dat s) (l := l) (x2 := x2) (x3 := x3) (x4 := x4) (x5 := .dat (.tup (wk P))) (x6 := x6) (x7 := x7) (x8 := .dat (ed e)) (x9 := x9) (x10 := x10) (x11 := x11) (x12 := x12) (x13 := x13) (x14 := .dat (pt c)) (x15 := .dat (.lst (wk Q))) (x16 := x16) (x17 := x17) (x18 := x18) (x19 := x19) (x20 := x20) (x21 := x21) (x22 := x22) (x23 := .emp) (x24 := .emp) hl
  have ecw : [.tup [.int 999, .int 1000], .tup [.int 998, .int 999], .tup [.int 1000, .int 1000], .tup [.int (-999), .int (-1000)], .tup [.int (-998), .int (-999)], .tup [.int 997, .int 998]] = wk CW := rfl
  have n9 : negD (.int 999) = some (.dat (.int (-999))) := rfl
  have n8 : negD (.int 998) = some (.dat (.int (-998))) := rfl
  have n7 : negD (.int 1000) = some (.dat (.int (-1000))) := rfl
  have lc : (wk CW).length = 6 := rfl
  have kcw : ∀ τ : DS, kLst (wk CW) τ = .ok (.fr (.lst (wk CW))) τ := fun _ => v_klst (show 6 ≤ 1000000 by decide)
  have ad : addD (.lst (wk W)) (.lst (wk CW)) = some (.fr (.lst (wk (W ++ CW)))) := by
    rw [v_add_l (by rw [wk_len, lc]; omega), wk_app]
  have l12 : (W ++ CW).length = 12 := by rw [List.length_append, hW]; rfl
  have ss := ss2_wk (P := W ++ CW) (by omega)
  have sWC : ∀ a ∈ sortP (W ++ CW), Sm a := fun a ha => by
    rcases List.mem_append.mp (sortP_mem.mp ha) with z | z
    · exact sW a z
    · exact cw_sm a z
  have ln := sortP_len (W ++ CW)
  have nc := fun x0 x1 x2 x3 x4 x5 x6 x7 x8 x9 x10 x11 x12 x13 x15 x16 x17 x18 x19 x20 x21 x22 x23 x25 => ne_comp (c := c) (P := sortP (W ++ CW)) (x0 := x0) (x1 := x1) (x2 := x2) (x3 := x3) (x4 := x4) (x5 := x5) (x6 := x6) (x7 := x7) (x8 := x8) (x9 := x9) (x10 := x10) (x11 := x11) (x12 := x12) (x13 := x13) (x15 := x15) (x16 := x16) (x17 := x17) (x18 := x18) (x19 := x19) (x20 := x20) (x21 := x21) (x22 := x22) (x23 := x23) (x25 := x25) (by omega)
  have lf := List.length_filter_le (fun p => !decide (p = c)) (sortP (W ++ CW))
  obtain ⟨l2, m, mx, n2, pm⟩ := e_mixed (l := l1) (rows := (sortP (W ++ CW)).filter fun p => !decide (p = c)) n1 (by omega)
  have am := aw_of hc sWC pm
  have lm := pm.length_eq
  have t1 := told1 (e_around hc am (by omega))
  have t2 := e_law_around am (by omega)
  have sm : F_law_same 6 [.lst (wk (rndL c m)), .lst (wk (rndL c m))] = .ok (.dat (.bl true)) := e_same 6 _ (good_wkl (by rw [rnd_len]; omega))
  have r := l_D (s := s) (l := l2) (P := P) (Q := Q) (e := e) (c := c) (x2 := x2) (x3 := x3) (x4 := x4) (x6 := x6) (x7 := x7) (x9 := x9) (x10 := x10) (x11 := x11) (x12 := x12) (x13 := x13) (x16 := x16) (x17 := .dat (.lst (wk m))) (x18 := x18) (x19 := x19) (x20 := x20) (x21 := x21) (x22 := x22) n2 hs ha hP he hc hq hQ h2 h3
  have e : LBC [.dat s, .own (.lst (l.map D.int)), x2, x3, x4, .dat (.tup (wk P)), x6, x7, .dat (ed e), x9, x10, x11, x12, x13, .dat (pt c), .dat (.lst (wk Q)), x16, x17, x18, x19, x20, x21, x22, .emp, .emp, .emp] = LBD [.dat s, .own (.lst (l2.map D.int)), x2, x3, x4, .dat (.tup (wk P)), x6, x7, .dat (ed e), x9, x10, x11, x12, x13, .dat (pt c), .dat (.lst (wk Q)), x16, .dat (.lst (wk m)), x18, x19, x20, x21, x22, .emp, .emp, .emp] := by
    have r6 : -1000000000 ≤ (6 : Int) ∧ (6 : Int) < 1000000000 := by decide
    unfold LBC
    simp only [v_bok,v_berr,v_sok,v_serr,v_nx,v_rt,v_bk,v_ct,v_er,v_ofs,v_var,v_slot_dat,v_slot_own,v_c,v_bin,v_kbin,v_op2,v_pk2,v_un,v_op1,v_pk1,v_peek_dat,v_peek_fr,v_peek_slot,v_pslot_own,v_pslot_dat,v_cnl,v_test,v_ktest,v_notT,v_knotT,v_nil,v_cons,v_kcons,v_kcons2,v_fast,v_kfast,v_all0,v_all1,v_kall,v_kall2,v_force_dat,v_force_fr,v_force_slot,v_fslot_own,v_fslot_dat,v_tup,v_ktup,v_lst,v_klst,v_call,v_callF,v_at_ok,v_at_err,v_callB,v_vown,v_kcallB,v_vB,v_atB,v_vM2,v_vM3,v_cb,v_kcb,v_pkL,v_peeks0,v_peeks1,v_cons22,v_iter,v_it_l,v_it_r,v_it_t,v_rng1,v_lc,v_klc,v_klc2,v_yes,v_seq,v_skip,v_ret,v_ret_dat,v_ret_fr,v_ret_slot,v_rslot_own,v_rslot_dat,v_retN,v_ifS,v_kifS1,v_kifS0,v_set,v_put_dat,v_put_fr,v_put_slot,v_kput,v_tgN,v_tgNil,v_tgCons,v_ktg,v_tgT,v_for,v_runF,v_endF_rt,v_endF_nx,v_endF_er,v_runB,v_endB_rt,v_endB_nx,v_add,v_sub,v_mod,v_neg,v_lt,v_cmp,v_eq,v_ne,v_len_l,v_len_t,v_len_r,v_ixt,v_ixl,v_ixr,v_eq_bb,v_ne_bb,v_subE_i,v_mSS3,v_ss3_l,v_ss3_t,v_add_l,v_add_t,List.map_cons,List.map_nil,List.length_cons,List.length_nil,List.cons_append,List.nil_append,List.replicate_succ,List.replicate_zero,List.getElem?_cons_zero,List.getElem?_cons_succ,List.set_cons_zero,List.set_cons_succ,Option.map_some,Nat.reduceSub,Nat.reduceAdd,Nat.reduceLT,Nat.reduceLeDiff,bigN, v_rng1 r6, cw, n9, n8, n7, ecw, kcw, ad, ss, nc, mx, t1, t2, sm, Bool.not_true]
  rw [e]
  exact r
theorem l_B {s : D} {l : List Int} {P : List Pt} {e : Sg} {x2 x3 x4 x6 x7 x9 x10 x11 x12 x13 x14 x15 x16 x17 x18 x19 x20 x21 x22 : SV} (hl : nonneg l) (hs : ∀ a ∈ P, Sm a) (ha : asc P = true) (hP : P.length ≤ 40) (he : SOk e) (h2 : x2 = .own flS ∨ x2 = .dat fld) (h3 : x3 = .own flT ∨ x3 = .dat ftd) :
    OutOk s (LBB [.dat s, .own (.lst (l.map D.int)), x2, x3, x4, .dat (.tup (wk P)), x6, x7, .dat (ed e), x9, x10, x11, x12, x13, x14, x15, x16, x17, x18, x19, x20, x21, x22, .emp, .emp, .emp]) := by
  obtain ⟨p0, l1, t1, sp0, n1⟩ := e_law_point (l := l) (most := 3) hl (by decide)
  obtain ⟨c, l2, t2, mc, n2⟩ := pick_pt (l := l1) (P := [p0, (0, 0)]) n1 (by simp)
  have hc : Sm c := by
    simp only [List.mem_cons, List.not_mem_nil, or_false] at mc
    rcases mc with rfl | rfl
    · exact sp0
    · unfold Sm; decide
  have ew : wk [p0, (0, 0)] = [pt p0, .tup [.int 0, .int 0]] := rfl
  rw [ew] at t2
  have nc := fun x0 x1 x2 x3 x4 x5 x6 x7 x8 x9 x10 x11 x12 x13 x15 x16 x17 x18 x19 x20 x21 x22 x23 x25 => ne_comp (c := c) (P := P) (x0 := x0) (x1 := x1) (x2 := x2) (x3 := x3) (x4 := x4) (x5 := x5) (x6 := x6) (x7 := x7) (x8 := x8) (x9 := x9) (x10 := x10) (x11 := x11) (x12 := x12) (x13 := x13) (x15 := x15) (x16 := x16) (x17 := x17) (x18 := x18) (x19 := x19) (x20 := x20) (x21 := x21) (x22 := x22) (x23 := x23) (x25 := x25) (by omega)
  have lf := List.length_filter_le (fun p => !decide (p = c)) P
  obtain ⟨l3, Q, mx, n3, pm⟩ := e_mixed (l := l2) (rows := P.filter fun p => !decide (p = c)) n2 (by omega)
  have am := aw_of hc hs pm
  have lm := pm.length_eq
  have t3 := told1 (e_around hc am (by omega))
  have t4 := e_law_around am (by omega)
  have ls : listD [.lst (wk Q)] = some (.fr (.lst (wk Q))) := rfl
  have sm : F_law_same 6 [.lst [.lst (wk (rndL c Q)), .lst (wk Q)], .lst [.lst (wk (rndL c Q)), .lst (wk Q)]] = .ok (.dat (.bl true)) := e_same 6 _ (good_l2 (good_wkl (by rw [rnd_len]; omega)) (good_wkl (by omega)))
  have r := l_C (s := s) (l := l3) (P := P) (Q := Q) (e := e) (c := c) (x2 := x2) (x3 := x3) (x4 := x4) (x6 := x6) (x7 := x7) (x9 := x9) (x10 := x10) (x11 := x11) (x12 := x12) (x13 := x13) (x16 := .dat (.lst (wk Q))) (x17 := x17) (x18 := x18) (x19 := x19) (x20 := x20) (x21 := x21) (x22 := x22) n3 hs ha hP he hc am (by omega) h2 h3
  have e : LBB [.dat s, .own (.lst (l.map D.int)), x2, x3, x4, .dat (.tup (wk P)), x6, x7, .dat (ed e), x9, x10, x11, x12, x13, x14, x15, x16, x17, x18, x19, x20, x21, x22, .emp, .emp, .emp] = LBC [.dat s, .own (.lst (l3.map D.int)), x2, x3, x4, .dat (.tup (wk P)), x6, x7, .dat (ed e), x9, x10, x11, x12, x13, .dat (pt c), .dat (.lst (wk Q)), .dat (.lst (wk Q)), x17, x18, x19, x20, x21, x22, .emp, .emp, .emp] := by
    unfold LBB
    simp only [v_bok,v_berr,v_sok,v_serr,v_nx,v_rt,v_bk,v_ct,v_er,v_ofs,v_var,v_slot_dat,v_slot_own,v_c,v_bin,v_kbin,v_op2,v_pk2,v_un,v_op1,v_pk1,v_peek_dat,v_peek_fr,v_peek_slot,v_pslot_own,v_pslot_dat,v_cnl,v_test,v_ktest,v_notT,v_knotT,v_nil,v_cons,v_kcons,v_kcons2,v_fast,v_kfast,v_all0,v_all1,v_kall,v_kall2,v_force_dat,v_force_fr,v_force_slot,v_fslot_own,v_fslot_dat,v_tup,v_ktup,v_lst,v_klst,v_call,v_callF,v_at_ok,v_at_err,v_callB,v_vown,v_kcallB,v_vB,v_atB,v_vM2,v_vM3,v_cb,v_kcb,v_pkL,v_peeks0,v_peeks1,v_cons22,v_iter,v_it_l,v_it_r,v_it_t,v_rng1,v_lc,v_klc,v_klc2,v_yes,v_seq,v_skip,v_ret,v_ret_dat,v_ret_fr,v_ret_slot,v_rslot_own,v_rslot_dat,v_retN,v_ifS,v_kifS1,v_kifS0,v_set,v_put_dat,v_put_fr,v_put_slot,v_kput,v_tgN,v_tgNil,v_tgCons,v_ktg,v_tgT,v_runF,v_endF_rt,v_endF_nx,v_endF_er,v_runB,v_endB_rt,v_endB_nx,v_add,v_sub,v_mod,v_neg,v_lt,v_cmp,v_eq,v_ne,v_len_l,v_len_t,v_len_r,v_list_l,v_list_t,v_ixt,v_ixl,v_ixr,v_eq_bb,v_ne_bb,v_subE_i,v_mSS3,v_ss3_l,v_ss3_t,v_add_l,v_add_t,List.map_cons,List.map_nil,List.length_cons,List.length_nil,List.cons_append,List.nil_append,List.replicate_succ,List.replicate_zero,List.getElem?_cons_zero,List.getElem?_cons_succ,List.set_cons_zero,List.set_cons_succ,Option.map_some,Nat.reduceSub,Nat.reduceAdd,Nat.reduceLT,Nat.reduceLeDiff,bigN, t1, t2, nc, mx, ls, t3, t4, sm, Bool.not_true]
  rw [e]
  exact r
theorem sortP_asc (P : List Pt) : asc (sortP P) = true := (asc_srt _).mpr (sortP_srt P)
theorem l_A {s : D} {l : List Int} {x2 x3 x4 x5 x6 x7 x8 x9 x10 x11 x12 x13 x14 x15 x16 x17 x18 x19 x20 x21 x22 : SV} (hl : nonneg l) (h2 : x2 = .own flS ∨ x2 = .dat fld) (h3 : x3 = .own flT ∨ x3 = .dat ftd) : OutOk s (B_law_4 [.dat s, .own (.lst (l.map D.int)), x2, x3, x4, x5, x6, x7, x8, x9, x10, x11, x12, x13, x14, x15, x16, x17, x18, x19, x20, x21, x22, .emp, .emp, .emp]) := by
  rw [LB_eq]
  obtain ⟨dm, l1, p1, m1, n1⟩ := e_pick (l := l) (ds := [.int 4, .int 8, .int 12]) (by simp) hl
  obtain ⟨many, rfl, hm⟩ : ∃ many : Nat, dm = .int (many : Nat) ∧ 1 ≤ many ∧ many ≤ 12 := by
    simp only [List.mem_cons, List.not_mem_nil, or_false] at m1
    rcases m1 with rfl | rfl | rfl
    · exact ⟨4, rfl, by decide, by decide⟩
    · exact ⟨8, rfl, by decide, by decide⟩
    · exact ⟨12, rfl, by decide, by decide⟩
  obtain ⟨P0, l2, t1, sP, n2, _, hP⟩ := e_law_spots (l := l1) (many := many) (by omega) n1
  have lP := sortP_len P0
  have sS : ∀ a ∈ sortP P0, Sm a := fun a ha => sP a (sortP_mem.mp ha)
  have ls : listD [.tup (wk (sortP P0))] = some (.fr (.lst (wk (sortP P0)))) := rfl
  have ad : addD (.lst (wk (sortP P0))) (.lst [.tup [.int 1, .int 0], .tup [.int 0, .int 3]]) = some (.fr (.lst (wk (sortP P0 ++ [(1, 0), (0, 3)])))) := by
    rw [v_add_l (by rw [wk_len]; simp only [List.length_cons, List.length_nil]; omega), wk_app]; rfl
  have hS : Sp (sortP P0 ++ [(1, 0), (0, 3)]) := ⟨fun a ha => by
    rcases List.mem_append.mp ha with z | z
    · exact sS a z
    · simp only [List.mem_cons, List.not_mem_nil, or_false] at z
      rcases z with rfl | rfl <;> (unfold Sm; decide), by rw [List.length_append]; simp only [List.length_cons, List.length_nil]; omega, by simp, by simp⟩
  obtain ⟨l3, e, y7, y9, y10, y11, y12, y13, lp, n3, he⟩ := l1_loop (x0 := .dat s) (x2 := x2) (x3 := x3) (x4 := x4) (x5 := .dat (.tup (wk (sortP P0)))) (x7 := x7) (x8 := x8) (x9 := x9) (x10 := x10) (x11 := x11) (x12 := x12) (x13 := x13) (x14 := x14) (x15 := x15) (x16 := x16) (x17 := x17) (x18 := x18) (x19 := x19) (x20 := x20) (x21 := x21) (x22 := x22) (x23 := .emp) (x24 := .emp) (x25 := .emp) n2 hS
  have r := l_B (s := s) (l := l3) (P := sortP P0) (e := e) (x2 := x2) (x3 := x3) (x4 := x4) (x6 := .own (.lst (wk (sortP P0 ++ [(1, 0), (0, 3)])))) (x7 := y7) (x9 := y9) (x10 := y10) (x11 := y11) (x12 := y12) (x13 := y13) (x14 := x14) (x15 := x15) (x16 := x16) (x17 := x17) (x18 := x18) (x19 := x19) (x20 := x20) (x21 := x21) (x22 := x22) n3 sS (sortP_asc P0) (by omega) he h2 h3
  have e : LBA [.dat s, .own (.lst (l.map D.int)), x2, x3, x4, x5, x6, x7, x8, x9, x10, x11, x12, x13, x14, x15, x16, x17, x18, x19, x20, x21, x22, .emp, .emp, .emp] = LBB [.dat s, .own (.lst (l3.map D.int)), x2, x3, x4, .dat (.tup (wk (sortP P0))), .own (.lst (wk (sortP P0 ++ [(1, 0), (0, 3)]))), y7, .dat (ed e), y9, y10, y11, y12, y13, x14, x15, x16, x17, x18, x19, x20, x21, x22, .emp, .emp, .emp] := by
    have r5 : -1000000000 ≤ (5 : Int) ∧ (5 : Int) < 1000000000 := by decide
    unfold LBA
    simp only [v_bok,v_berr,v_sok,v_serr,v_nx,v_rt,v_bk,v_ct,v_er,v_ofs,v_var,v_slot_dat,v_slot_own,v_c,v_bin,v_kbin,v_op2,v_pk2,v_un,v_op1,v_pk1,v_peek_dat,v_peek_fr,v_peek_slot,v_pslot_own,v_pslot_dat,v_cnl,v_test,v_ktest,v_orT,v_kor1,v_kor0,v_notT,v_knotT,v_nil,v_cons,v_kcons,v_kcons2,v_fast,v_kfast,v_all0,v_all1,v_kall,v_kall2,v_force_dat,v_force_fr,v_force_slot,v_fslot_own,v_fslot_dat,v_tup,v_ktup,v_lst,v_klst,v_call,v_callF,v_at_ok,v_at_err,v_callB,v_vown,v_kcallB,v_vB,v_atB,v_vM2,v_vM3,v_cb,v_kcb,v_pkL,v_peeks0,v_peeks1,v_cons22,v_iter,v_it_l,v_it_r,v_it_t,v_rng1,v_lc,v_klc,v_klc2,v_yes,v_seq,v_skip,v_ret,v_ret_dat,v_ret_fr,v_ret_slot,v_rslot_own,v_rslot_dat,v_retN,v_ifS,v_kifS1,v_kifS0,v_set,v_put_dat,v_put_fr,v_put_slot,v_kput,v_tgN,v_tgNil,v_tgCons,v_ktg,v_tgT,v_for,v_runF,v_endF_rt,v_endF_nx,v_endF_er,v_runB,v_endB_rt,v_endB_nx,v_add,v_sub,v_mod,v_neg,v_lt,v_cmp,v_eq,v_ne,v_len_l,v_len_t,v_len_r,v_list_l,v_list_t,v_ixt,v_ixl,v_ixr,v_eq_bb,v_ne_bb,v_mulE_i,v_mulE_t,v_mulE_l,v_revT,v_rsl,v_rsr,v_rst,v_subE_i,v_mSS3,v_ss3_l,v_ss3_t,v_add_l,v_add_t,List.map_cons,List.map_nil,List.length_cons,List.length_nil,List.cons_append,List.nil_append,List.replicate_succ,List.replicate_zero,List.getElem?_cons_zero,List.getElem?_cons_succ,List.set_cons_zero,List.set_cons_succ,Option.map_some,Nat.reduceSub,Nat.reduceAdd,Nat.reduceLT,Nat.reduceLeDiff,bigN, p1, t1, ls, ad, v_rng1 r5, lp]
  rw [e]
  exact r
theorem l_loop {s : D} {l : List Int} {x4 x5 x6 x7 x8 x9 x10 x11 x12 x13 x14 x15 x16 x17 x18 x19 x20 x21 x22 : SV} (hl : nonneg l) : ∃ τ, forL (tgN 4) B_law_4 (iRow 0 (3 : Int).toNat) [.dat s, .own (.lst (l.map D.int)), .own flS, .own flT, x4, x5, x6, x7, x8, x9, x10, x11, x12, x13, x14, x15, x16, x17, x18, x19, x20, x21, x22, .emp, .emp, .emp] = .nx τ := by
  obtain ⟨τ, hf, _⟩ := for_all (mt := tgN 4) (mb := B_law_4) (xs := iRow 0 (3 : Int).toNat) (τ := [.dat s, .own (.lst (l.map D.int)), .own flS, .own flT, x4, x5, x6, x7, x8, x9, x10, x11, x12, x13, x14, x15, x16, x17, x18, x19, x20, x21, x22, .emp, .emp, .emp])
    (fun _ τ => ∃ (l' : List Int) (z2 z3 : SV) (z4 z5 z6 z7 z8 z9 z10 z11 z12 z13 z14 z15 z16 z17 z18 z19 z20 z21 z22 : SV), τ = [.dat s, .own (.lst (l'.map D.int)), z2, z3, z4, z5, z6, z7, z8, z9, z10, z11, z12, z13, z14, z15, z16, z17, z18, z19, z20, z21, z22, .emp, .emp, .emp] ∧ nonneg l' ∧ (z2 = .own flS ∨ z2 = .dat fld) ∧ (z3 = .own flT ∨ z3 = .dat ftd)) ⟨l, .own flS, .own flT, x4, x5, x6, x7, x8, x9, x10, x11, x12, x13, x14, x15, x16, x17, x18, x19, x20, x21, x22, rfl, hl, .inl rfl, .inl rfl⟩
    (fun j x τ hx ⟨l', z2, z3, z4, z5, z6, z7, z8, z9, z10, z11, z12, z13, z14, z15, z16, z17, z18, z19, z20, z21, z22, eτ, g1, g2, g3⟩ => by
      subst eτ
      obtain ⟨l2, w2, w3, w4, w5, w6, w7, w8, w9, w10, w11, w12, w13, w14, w15, w16, w17, w18, w19, w20, w21, w22, r, n2, o2, o3⟩ := l_A (s := s) (l := l') (x2 := z2) (x3 := z3) (x4 := .dat x) (x5 := z5) (x6 := z6) (x7 := z7) (x8 := z8) (x9 := z9) (x10 := z10) (x11 := z11) (x12 := z12) (x13 := z13) (x14 := z14) (x15 := z15) (x16 := z16) (x17 := z17) (x18 := z18) (x19 := z19) (x20 := z20) (x21 := z21) (x22 := z22) g1 g2 g3
      exact ⟨_, _, rfl, r, l2, w2, w3, w4, w5, w6, w7, w8, w9, w10, w11, w12, w13, w14, w15, w16, w17, w18, w19, w20, w21, w22, rfl, n2, o2, o3⟩)
  exact ⟨τ, hf⟩
theorem law_true (ns : List Int) (hn : ns.length ≤ 63) : F_law [.rol (ns.map D.int)] = .ok (.dat (.bl true)) := by
  obtain ⟨l, nl, hd⟩ := e_draws hn
  obtain ⟨τ, hf⟩ := l_loop (s := .rol (ns.map D.int)) (l := l) (x4 := .emp) (x5 := .emp) (x6 := .emp) (x7 := .emp) (x8 := .emp) (x9 := .emp) (x10 := .emp) (x11 := .emp) (x12 := .emp) (x13 := .emp) (x14 := .emp) (x15 := .emp) (x16 := .emp) (x17 := .emp) (x18 := .emp) (x19 := .emp) (x20 := .emp) (x21 := .emp) (x22 := .emp) nl
  have ef : Cn.lst [.bl true, .bl false, .bl false, .bl false, .bl false] = flS := rfl
  have ef' : Cn.lst [.bl false, .bl true, .bl false, .bl false, .bl false] = flT := rfl
  have r3 : -1000000000 ≤ (3 : Int) ∧ (3 : Int) < 1000000000 := by decide
  unfold F_law M_law
  simp only [v_bok,v_berr,v_sok,v_serr,v_nx,v_rt,v_bk,v_ct,v_er,v_ofs,v_var,v_slot_dat,v_slot_own,v_c,v_bin,v_kbin,v_op2,v_pk2,v_un,v_op1,v_pk1,v_peek_dat,v_peek_fr,v_peek_slot,v_pslot_own,v_pslot_dat,v_cnl,v_test,v_ktest,v_nil,v_cons,v_kcons,v_kcons2,v_fast,v_kfast,v_all0,v_all1,v_kall,v_kall2,v_force_dat,v_force_fr,v_force_slot,v_fslot_own,v_fslot_dat,v_lst,v_klst,v_call,v_callF,v_at_ok,v_at_err,v_vB,v_atB,v_vM2,v_vM3,v_pkL,v_peeks0,v_peeks1,v_cons22,v_it_l,v_it_r,v_it_t,v_rng1,v_seq,v_ret,v_ret_dat,v_ret_fr,v_ret_slot,v_rslot_own,v_rslot_dat,v_retN,v_set,v_put_dat,v_put_fr,v_put_slot,v_kput,v_tgN,v_tgNil,v_tgCons,v_ktg,v_tgT,v_par,v_kpar,v_kpar1,v_kpar2,v_kpar3,v_fix_dat,v_fix_fr,v_fix_slot,v_kfix,v_for,v_runF,v_endF_rt,v_endF_nx,v_endF_er,v_runB,v_endB_rt,v_endB_nx,v_add,v_sub,v_mod,v_neg,v_lt,v_cmp,v_eq,v_ne,v_len_l,v_len_t,v_len_r,v_ixt,v_ixl,v_ixr,v_eq_bb,v_ne_bb,v_subE_i,List.map_cons,List.map_nil,List.length_cons,List.length_nil,List.cons_append,List.nil_append,List.replicate_succ,List.replicate_zero,List.getElem?_cons_zero,List.getElem?_cons_succ,List.set_cons_zero,List.set_cons_succ,Option.map_some,Nat.reduceSub,Nat.reduceAdd,Nat.reduceLT,Nat.reduceLeDiff,bigN, nn_law, hd, ef, ef', v_rng1 r3, hf]
end Lw
set_option maxHeartbeats 8000000
namespace Lw
open PySem PySem.Spec PyProof.Rows L2 DL
theorem all_mk {P : Program} {w : World} {K : PySem.W.Frag} {h : Heap} {mg : Str → Option Value} {fa f1 f2 f3 f4 f5 f6 f7 f8 f9 f10 f11 f16 f17 f18 f19 f20 f21 f22 f23 f24 f25 f26 f27 f28 f30 f31 f32 f33 f34 f35 f36 f37 f38 f39 f40 f41 f42 f43 f44 f45 f46 : Addr} (X : K.In h) (G : h.Ns mainGlobals mg) (hfa : mg "law" = some (.ref fa)) {ts : List Addr} (hT : ∀ P ∈ ts, h.get? P = some (PySem.W.tabObj #[]))
    {od30 an30 : Option Addr} {sl30 : Array (Option Value)} {oc30 kV30 dc30 pm30 cd30 ct30 : Value} {od31 an31 : Option Addr} {sl31 : Array (Option Value)} {oc31 kV31 dc31 pm31 cd31 ct31 : Value} {od32 an32 : Option Addr} {sl32 : Array (Option Value)} {oc32 kV32 dc32 pm32 cd32 ct32 : Value} {od39 an39 : Option Addr} {sl39 : Array (Option Value)} {oc39 kV39 dc39 pm39 cd39 ct39 : Value} {od40 an40 : Option Addr} {sl40 : Array (Option Value)} {oc40 kV40 dc40 pm40 cd40 ct40 : Value} {od35 an35 : Option Addr} {sl35 : Array (Option Value)} {oc35 kV35 dc35 pm35 cd35 ct35 : Value} {od33 an33 : Option Addr} {sl33 : Array (Option Value)} {oc33 kV33 dc33 pm33 cd33 ct33 : Value} {od9 an9 : Option Addr} {sl9 : Array (Option Value)} {oc9 kV9 dc9 pm9 cd9 ct9 : Value} {od7 an7 : Option Addr} {sl7 : Array (Option Value)} {oc7 kV7 dc7 pm7 cd7 ct7 : Value} {od8 an8 : Option Addr} {sl8 : Array (Option Value)} {oc8 kV8 dc8 pm8 cd8 ct8 : Value} {od16 an16 : Option Addr} {sl16 : Array (Option Value)} {oc16 kV16 dc16 pm16 cd16 ct16 : Value} {od17 an17 : Option Addr} {sl17 : Array (Option Value)} {oc17 kV17 dc17 pm17 cd17 ct17 : Value} {od20 an20 : Option Addr} {sl20 : Array (Option Value)} {oc20 kV20 dc20 pm20 cd20 ct20 : Value} {od22 an22 : Option Addr} {sl22 : Array (Option Value)} {oc22 kV22 dc22 pm22 cd22 ct22 : Value} {od28 an28 : Option Addr} {sl28 : Array (Option Value)} {oc28 kV28 dc28 pm28 cd28 ct28 : Value} {od34 an34 : Option Addr} {sl34 : Array (Option Value)} {oc34 kV34 dc34 pm34 cd34 ct34 : Value} {od18 an18 : Option Addr} {sl18 : Array (Option Value)} {oc18 kV18 dc18 pm18 cd18 ct18 : Value} {od21 an21 : Option Addr} {sl21 : Array (Option Value)} {oc21 kV21 dc21 pm21 cd21 ct21 : Value} {od10 an10 : Option Addr} {sl10 : Array (Option Value)} {oc10 kV10 dc10 pm10 cd10 ct10 : Value} {od11 an11 : Option Addr} {sl11 : Array (Option Value)} {oc11 kV11 dc11 pm11 cd11 ct11 : Value} {od23 an23 : Option Addr} {sl23 : Array (Option Value)} {oc23 kV23 dc23 pm23 cd23 ct23 : Value} {od24 an24 : Option Addr} {sl24 : Array (Option Value)} {oc24 kV24 dc24 pm24 cd24 ct24 : Value} {od19 an19 : Option Addr} {sl19 : Array (Option Value)} {oc19 kV19 dc19 pm19 cd19 ct19 : Value} {od26 an26 : Option Addr} {sl26 : Array (Option Value)} {oc26 kV26 dc26 pm26 cd26 ct26 : Value} {od25 an25 : Option Addr} {sl25 : Array (Option Value)} {oc25 kV25 dc25 pm25 cd25 ct25 : Value} {od27 an27 : Option Addr} {sl27 : Array (Option Value)} {oc27 kV27 dc27 pm27 cd27 ct27 : Value} {od45 an45 : Option Addr} {sl45 : Array (Option Value)} {oc45 kV45 dc45 pm45 cd45 ct45 : Value} {od38 an38 : Option Addr} {sl38 : Array (Option Value)} {oc38 kV38 dc38 pm38 cd38 ct38 : Value} {od42 an42 : Option Addr} {sl42 : Array (Option Value)} {oc42 kV42 dc42 pm42 cd42 ct42 : Value} {od43 an43 : Option Addr} {sl43 : Array (Option Value)} {oc43 kV43 dc43 pm43 cd43 ct43 : Value} {od44 an44 : Option Addr} {sl44 : Array (Option Value)} {oc44 kV44 dc44 pm44 cd44 ct44 : Value} {od36 an36 : Option Addr} {sl36 : Array (Option Value)} {oc36 kV36 dc36 pm36 cd36 ct36 : Value} {od37 an37 : Option Addr} {sl37 : Array (Option Value)} {oc37 kV37 dc37 pm37 cd37 ct37 : Value} {od41 an41 : Option Addr} {sl41 : Array (Option Value)} {oc41 kV41 dc41 pm41 cd41 ct41 : Value} {od46 an46 : Option Addr} {sl46 : Array (Option Value)} {oc46 kV46 dc46 pm46 cd46 ct46 : Value} {tn_FARTHEST : Tok} {tn_FINE : Tok} {tn_MOST_SPOTS : Tok} {k27c k27P : Addr}
    (a30 : PySem.W.nsIn K mainGlobals "_law_draws" = some (some (.ref f30))) (l30 : K.lookup f30 = some ⟨oc30, od30, .func (PySem.W.fnOf "_law_draws" "_law_draws" (defArgs (topS 30)) (defBody (topS 30)) (defScope (topS 30)) .none kV30 dc30 pm30 an30 cd30 ct30), sl30⟩) (c30 : PySem.W.codeIn K cd30 "_law_draws" = true) (k30 : PySem.W.keepIn K (.ref f30) = true)
    (a31 : PySem.W.nsIn K mainGlobals "_law_take" = some (some (.ref f31))) (l31 : K.lookup f31 = some ⟨oc31, od31, .func (PySem.W.fnOf "_law_take" "_law_take" (defArgs (topS 31)) (defBody (topS 31)) (defScope (topS 31)) .none kV31 dc31 pm31 an31 cd31 ct31), sl31⟩) (c31 : PySem.W.codeIn K cd31 "_law_take" = true) (k31 : PySem.W.keepIn K (.ref f31) = true)
    (a32 : PySem.W.nsIn K mainGlobals "_law_pick" = some (some (.ref f32))) (l32 : K.lookup f32 = some ⟨oc32, od32, .func (PySem.W.fnOf "_law_pick" "_law_pick" (defArgs (topS 32)) (defBody (topS 32)) (defScope (topS 32)) .none kV32 dc32 pm32 an32 cd32 ct32), sl32⟩) (c32 : PySem.W.codeIn K cd32 "_law_pick" = true) (k32 : PySem.W.keepIn K (.ref f32) = true)
    (a39 : PySem.W.nsIn K mainGlobals "_law_point" = some (some (.ref f39))) (l39 : K.lookup f39 = some ⟨oc39, od39, .func (PySem.W.fnOf "_law_point" "_law_point" (defArgs (topS 39)) (defBody (topS 39)) (defScope (topS 39)) .none kV39 dc39 pm39 an39 cd39 ct39), sl39⟩) (c39 : PySem.W.codeIn K cd39 "_law_point" = true) (k39 : PySem.W.keepIn K (.ref f39) = true)
    (a40 : PySem.W.nsIn K mainGlobals "_law_spots" = some (some (.ref f40))) (l40 : K.lookup f40 = some ⟨oc40, od40, .func (PySem.W.fnOf "_law_spots" "_law_spots" (defArgs (topS 40)) (defBody (topS 40)) (defScope (topS 40)) .none kV40 dc40 pm40 an40 cd40 ct40), sl40⟩) (c40 : PySem.W.codeIn K cd40 "_law_spots" = true) (k40 : PySem.W.keepIn K (.ref f40) = true)
    (a35 : PySem.W.nsIn K mainGlobals "_law_mixed" = some (some (.ref f35))) (l35 : K.lookup f35 = some ⟨oc35, od35, .func (PySem.W.fnOf "_law_mixed" "_law_mixed" (defArgs (topS 35)) (defBody (topS 35)) (defScope (topS 35)) .none kV35 dc35 pm35 an35 cd35 ct35), sl35⟩) (c35 : PySem.W.codeIn K cd35 "_law_mixed" = true) (k35 : PySem.W.keepIn K (.ref f35) = true)
    (a33 : PySem.W.nsIn K mainGlobals "_law_same" = some (some (.ref f33))) (l33 : K.lookup f33 = some ⟨oc33, od33, .func (PySem.W.fnOf "_law_same" "_law_same" (defArgs (topS 33)) (defBody (topS 33)) (defScope (topS 33)) .none kV33 dc33 pm33 an33 cd33 ct33), sl33⟩) (c33 : PySem.W.codeIn K cd33 "_law_same" = true) (k33 : PySem.W.keepIn K (.ref f33) = true)
    (a9 : PySem.W.nsIn K mainGlobals "are_ascending" = some (some (.ref f9))) (l9 : K.lookup f9 = some ⟨oc9, od9, .func (PySem.W.fnOf "are_ascending" "are_ascending" (defArgs (topS 9)) (defBody (topS 9)) (defScope (topS 9)) .none kV9 dc9 pm9 an9 cd9 ct9), sl9⟩) (c9 : PySem.W.codeIn K cd9 "are_ascending" = true) (k9 : PySem.W.keepIn K (.ref f9) = true)
    (a7 : PySem.W.nsIn K mainGlobals "is_integer" = some (some (.ref f7))) (l7 : K.lookup f7 = some ⟨oc7, od7, .func (PySem.W.fnOf "is_integer" "is_integer" (defArgs (topS 7)) (defBody (topS 7)) (defScope (topS 7)) .none kV7 dc7 pm7 an7 cd7 ct7), sl7⟩) (c7 : PySem.W.codeIn K cd7 "is_integer" = true) (k7 : PySem.W.keepIn K (.ref f7) = true)
    (a8 : PySem.W.nsIn K mainGlobals "is_within" = some (some (.ref f8))) (l8 : K.lookup f8 = some ⟨oc8, od8, .func (PySem.W.fnOf "is_within" "is_within" (defArgs (topS 8)) (defBody (topS 8)) (defScope (topS 8)) .none kV8 dc8 pm8 an8 cd8 ct8), sl8⟩) (c8 : PySem.W.codeIn K cd8 "is_within" = true) (k8 : PySem.W.keepIn K (.ref f8) = true)
    (a16 : PySem.W.nsIn K mainGlobals "is_point" = some (some (.ref f16))) (l16 : K.lookup f16 = some ⟨oc16, od16, .func (PySem.W.fnOf "is_point" "is_point" (defArgs (topS 16)) (defBody (topS 16)) (defScope (topS 16)) .none kV16 dc16 pm16 an16 cd16 ct16), sl16⟩) (c16 : PySem.W.codeIn K cd16 "is_point" = true) (k16 : PySem.W.keepIn K (.ref f16) = true)
    (a17 : PySem.W.nsIn K mainGlobals "are_spots" = some (some (.ref f17))) (l17 : K.lookup f17 = some ⟨oc17, od17, .func (PySem.W.fnOf "are_spots" "are_spots" (defArgs (topS 17)) (defBody (topS 17)) (defScope (topS 17)) .none kV17 dc17 pm17 an17 cd17 ct17), sl17⟩) (c17 : PySem.W.codeIn K cd17 "are_spots" = true) (k17 : PySem.W.keepIn K (.ref f17) = true)
    (a20 : PySem.W.nsIn K mainGlobals "check_spots" = some (some (.ref f20))) (l20 : K.lookup f20 = some ⟨oc20, od20, .func (PySem.W.fnOf "check_spots" "check_spots" (defArgs (topS 20)) (defBody (topS 20)) (defScope (topS 20)) .none kV20 dc20 pm20 an20 cd20 ct20), sl20⟩) (c20 : PySem.W.codeIn K cd20 "check_spots" = true) (k20 : PySem.W.keepIn K (.ref f20) = true)
    (a22 : PySem.W.nsIn K mainGlobals "turned" = some (some (.ref f22))) (l22 : K.lookup f22 = some ⟨oc22, od22, .func (PySem.W.fnOf "turned" "turned" (defArgs (topS 22)) (defBody (topS 22)) (defScope (topS 22)) .none kV22 dc22 pm22 an22 cd22 ct22), sl22⟩) (c22 : PySem.W.codeIn K cd22 "turned" = true) (k22 : PySem.W.keepIn K (.ref f22) = true)
    (a28 : PySem.W.nsIn K mainGlobals "in_line" = some (some (.ref f28))) (l28 : K.lookup f28 = some ⟨oc28, od28, .func (PySem.W.fnOf "in_line" "in_line" (defArgs (topS 28)) (defBody (topS 28)) (defScope (topS 28)) .none kV28 dc28 pm28 an28 cd28 ct28), sl28⟩) (c28 : PySem.W.codeIn K cd28 "in_line" = true) (k28 : PySem.W.keepIn K (.ref f28) = true)
    (a34 : PySem.W.nsIn K mainGlobals "_law_flags" = some (some (.ref f34))) (l34 : K.lookup f34 = some ⟨oc34, od34, .func (PySem.W.fnOf "_law_flags" "_law_flags" (defArgs (topS 34)) (defBody (topS 34)) (defScope (topS 34)) .none kV34 dc34 pm34 an34 cd34 ct34), sl34⟩) (c34 : PySem.W.codeIn K cd34 "_law_flags" = true) (k34 : PySem.W.keepIn K (.ref f34) = true)
    (a18 : PySem.W.nsIn K mainGlobals "is_stretch" = some (some (.ref f18))) (l18 : K.lookup f18 = some ⟨oc18, od18, .func (PySem.W.fnOf "is_stretch" "is_stretch" (defArgs (topS 18)) (defBody (topS 18)) (defScope (topS 18)) .none kV18 dc18 pm18 an18 cd18 ct18), sl18⟩) (c18 : PySem.W.codeIn K cd18 "is_stretch" = true) (k18 : PySem.W.keepIn K (.ref f18) = true)
    (a21 : PySem.W.nsIn K mainGlobals "check_stretches" = some (some (.ref f21))) (l21 : K.lookup f21 = some ⟨oc21, od21, .func (PySem.W.fnOf "check_stretches" "check_stretches" (defArgs (topS 21)) (defBody (topS 21)) (defScope (topS 21)) .none kV21 dc21 pm21 an21 cd21 ct21), sl21⟩) (c21 : PySem.W.codeIn K cd21 "check_stretches" = true) (k21 : PySem.W.keepIn K (.ref f21) = true)
    (a10 : PySem.W.nsIn K mainGlobals "shared" = some (some (.ref f10))) (l10 : K.lookup f10 = some ⟨oc10, od10, .func (PySem.W.fnOf "shared" "shared" (defArgs (topS 10)) (defBody (topS 10)) (defScope (topS 10)) .none kV10 dc10 pm10 an10 cd10 ct10), sl10⟩) (c10 : PySem.W.codeIn K cd10 "shared" = true) (k10 : PySem.W.keepIn K (.ref f10) = true)
    (a11 : PySem.W.nsIn K mainGlobals "made" = some (some (.ref f11))) (l11 : K.lookup f11 = some ⟨oc11, od11, .func (PySem.W.fnOf "made" "made" (defArgs (topS 11)) (defBody (topS 11)) (defScope (topS 11)) .none kV11 dc11 pm11 an11 cd11 ct11), sl11⟩) (c11 : PySem.W.codeIn K cd11 "made" = true) (k11 : PySem.W.keepIn K (.ref f11) = true)
    (a23 : PySem.W.nsIn K mainGlobals "meeting_by" = some (some (.ref f23))) (l23 : K.lookup f23 = some ⟨oc23, od23, .func (PySem.W.fnOf "meeting_by" "meeting_by" (defArgs (topS 23)) (defBody (topS 23)) (defScope (topS 23)) .none kV23 dc23 pm23 an23 cd23 ct23), sl23⟩) (c23 : PySem.W.codeIn K cd23 "meeting_by" = true) (k23 : PySem.W.keepIn K (.ref f23) = true)
    (a24 : PySem.W.nsIn K mainGlobals "meeting" = some (some (.ref f24))) (l24 : K.lookup f24 = some ⟨oc24, od24, .func (PySem.W.fnOf "meeting" "meeting" (defArgs (topS 24)) (defBody (topS 24)) (defScope (topS 24)) .none kV24 dc24 pm24 an24 cd24 ct24), sl24⟩) (c24 : PySem.W.codeIn K cd24 "meeting" = true) (k24 : PySem.W.keepIn K (.ref f24) = true)
    (a19 : PySem.W.nsIn K mainGlobals "check_points" = some (some (.ref f19))) (l19 : K.lookup f19 = some ⟨oc19, od19, .func (PySem.W.fnOf "check_points" "check_points" (defArgs (topS 19)) (defBody (topS 19)) (defScope (topS 19)) .none kV19 dc19 pm19 an19 cd19 ct19), sl19⟩) (c19 : PySem.W.codeIn K cd19 "check_points" = true) (k19 : PySem.W.keepIn K (.ref f19) = true)
    (a26 : PySem.W.nsIn K mainGlobals "angle" = some (some (.ref f26))) (l26 : K.lookup f26 = some ⟨oc26, od26, .func (PySem.W.fnOf "angle" "angle" (defArgs (topS 26)) (defBody (topS 26)) (defScope (topS 26)) .none kV26 dc26 pm26 an26 cd26 ct26), sl26⟩) (c26 : PySem.W.codeIn K cd26 "angle" = true) (k26 : PySem.W.keepIn K (.ref f26) = true)
    (a25 : PySem.W.nsIn K mainGlobals "distance_by" = some (some (.ref f25))) (l25 : K.lookup f25 = some ⟨oc25, od25, .func (PySem.W.fnOf "distance_by" "distance_by" (defArgs (topS 25)) (defBody (topS 25)) (defScope (topS 25)) .none kV25 dc25 pm25 an25 cd25 ct25), sl25⟩) (c25 : PySem.W.codeIn K cd25 "distance_by" = true) (k25 : PySem.W.keepIn K (.ref f25) = true)
    (a27 : PySem.W.nsIn K mainGlobals "around" = some (some (.ref f27))) (l27 : K.lookup f27 = some ⟨oc27, od27, .func (PySem.W.fnOf "around" "around" (defArgs (topS 27)) (defBody (topS 27)) (defScope (topS 27)) .none kV27 dc27 pm27 an27 cd27 ct27), sl27⟩) (c27 : PySem.W.codeIn K cd27 "around" = true) (k27 : PySem.W.keepIn K (.ref f27) = true)
    (a45 : PySem.W.nsIn K mainGlobals "_law_told" = some (some (.ref f45))) (l45 : K.lookup f45 = some ⟨oc45, od45, .func (PySem.W.fnOf "_law_told" "_law_told" (defArgs (topS 45)) (defBody (topS 45)) (defScope (topS 45)) .none kV45 dc45 pm45 an45 cd45 ct45), sl45⟩) (c45 : PySem.W.codeIn K cd45 "_law_told" = true) (k45 : PySem.W.keepIn K (.ref f45) = true)
    (a38 : PySem.W.nsIn K mainGlobals "_law_turn" = some (some (.ref f38))) (l38 : K.lookup f38 = some ⟨oc38, od38, .func (PySem.W.fnOf "_law_turn" "_law_turn" (defArgs (topS 38)) (defBody (topS 38)) (defScope (topS 38)) .none kV38 dc38 pm38 an38 cd38 ct38), sl38⟩) (c38 : PySem.W.codeIn K cd38 "_law_turn" = true) (k38 : PySem.W.keepIn K (.ref f38) = true)
    (a42 : PySem.W.nsIn K mainGlobals "_law_half" = some (some (.ref f42))) (l42 : K.lookup f42 = some ⟨oc42, od42, .func (PySem.W.fnOf "_law_half" "_law_half" (defArgs (topS 42)) (defBody (topS 42)) (defScope (topS 42)) .none kV42 dc42 pm42 an42 cd42 ct42), sl42⟩) (c42 : PySem.W.codeIn K cd42 "_law_half" = true) (k42 : PySem.W.keepIn K (.ref f42) = true)
    (a43 : PySem.W.nsIn K mainGlobals "_law_is_ahead" = some (some (.ref f43))) (l43 : K.lookup f43 = some ⟨oc43, od43, .func (PySem.W.fnOf "_law_is_ahead" "_law_is_ahead" (defArgs (topS 43)) (defBody (topS 43)) (defScope (topS 43)) .none kV43 dc43 pm43 an43 cd43 ct43), sl43⟩) (c43 : PySem.W.codeIn K cd43 "_law_is_ahead" = true) (k43 : PySem.W.keepIn K (.ref f43) = true)
    (a44 : PySem.W.nsIn K mainGlobals "_law_around" = some (some (.ref f44))) (l44 : K.lookup f44 = some ⟨oc44, od44, .func (PySem.W.fnOf "_law_around" "_law_around" (defArgs (topS 44)) (defBody (topS 44)) (defScope (topS 44)) .none kV44 dc44 pm44 an44 cd44 ct44), sl44⟩) (c44 : PySem.W.codeIn K cd44 "_law_around" = true) (k44 : PySem.W.keepIn K (.ref f44) = true)
    (a36 : PySem.W.nsIn K mainGlobals "_law_common" = some (some (.ref f36))) (l36 : K.lookup f36 = some ⟨oc36, od36, .func (PySem.W.fnOf "_law_common" "_law_common" (defArgs (topS 36)) (defBody (topS 36)) (defScope (topS 36)) .none kV36 dc36 pm36 an36 cd36 ct36), sl36⟩) (c36 : PySem.W.codeIn K cd36 "_law_common" = true) (k36 : PySem.W.keepIn K (.ref f36) = true)
    (a37 : PySem.W.nsIn K mainGlobals "_law_ratio" = some (some (.ref f37))) (l37 : K.lookup f37 = some ⟨oc37, od37, .func (PySem.W.fnOf "_law_ratio" "_law_ratio" (defArgs (topS 37)) (defBody (topS 37)) (defScope (topS 37)) .none kV37 dc37 pm37 an37 cd37 ct37), sl37⟩) (c37 : PySem.W.codeIn K cd37 "_law_ratio" = true) (k37 : PySem.W.keepIn K (.ref f37) = true)
    (a41 : PySem.W.nsIn K mainGlobals "_law_meeting" = some (some (.ref f41))) (l41 : K.lookup f41 = some ⟨oc41, od41, .func (PySem.W.fnOf "_law_meeting" "_law_meeting" (defArgs (topS 41)) (defBody (topS 41)) (defScope (topS 41)) .none kV41 dc41 pm41 an41 cd41 ct41), sl41⟩) (c41 : PySem.W.codeIn K cd41 "_law_meeting" = true) (k41 : PySem.W.keepIn K (.ref f41) = true)
    (a46 : PySem.W.nsIn K mainGlobals "law" = some (some (.ref f46))) (l46 : K.lookup f46 = some ⟨oc46, od46, .func (PySem.W.fnOf "law" "law" (defArgs (topS 46)) (defBody (topS 46)) (defScope (topS 46)) .none kV46 dc46 pm46 an46 cd46 ct46), sl46⟩) (c46 : PySem.W.codeIn K cd46 "law" = true) (k46 : PySem.W.keepIn K (.ref f46) = true)
    (a1 : PySem.W.nsIn K mainGlobals "PolyError" = some (some (.ref f1)))
    (a2 : PySem.W.nsIn K mainGlobals "NotRight" = some (some (.ref f2)))
    (a3 : PySem.W.nsIn K mainGlobals "NotThere" = some (some (.ref f3)))
    (a4 : PySem.W.nsIn K mainGlobals "NoAnswer" = some (some (.ref f4)))
    (a5 : PySem.W.nsIn K mainGlobals "TooLarge" = some (some (.ref f5)))
    (a6 : PySem.W.nsIn K mainGlobals "Malformed" = some (some (.ref f6)))
    (z_abs : PySem.W.nsIn K mainGlobals "abs" = some none)
    (z_all : PySem.W.nsIn K mainGlobals "all" = some none)
    (z_bool : PySem.W.nsIn K mainGlobals "bool" = some none)
    (z_dict : PySem.W.nsIn K mainGlobals "dict" = some none)
    (z_enumerate : PySem.W.nsIn K mainGlobals "enumerate" = some none)
    (z_int : PySem.W.nsIn K mainGlobals "int" = some none)
    (z_isinstance : PySem.W.nsIn K mainGlobals "isinstance" = some none)
    (z_len : PySem.W.nsIn K mainGlobals "len" = some none)
    (z_list : PySem.W.nsIn K mainGlobals "list" = some none)
    (z_max : PySem.W.nsIn K mainGlobals "max" = some none)
    (z_range : PySem.W.nsIn K mainGlobals "range" = some none)
    (z_reversed : PySem.W.nsIn K mainGlobals "reversed" = some none)
    (z_set : PySem.W.nsIn K mainGlobals "set" = some none)
    (z_sorted : PySem.W.nsIn K mainGlobals "sorted" = some none)
    (z_str : PySem.W.nsIn K mainGlobals "str" = some none)
    (z_tuple : PySem.W.nsIn K mainGlobals "tuple" = some none)
    (z_zip : PySem.W.nsIn K mainGlobals "zip" = some none)
    (an_FARTHEST : PySem.W.nsIn K mainGlobals "FARTHEST" = some (some (.int 1000 tn_FARTHEST)))
    (an_FINE : PySem.W.nsIn K mainGlobals "FINE" = some (some (.int 1000000000 tn_FINE)))
    (an_MOST_SPOTS : PySem.W.nsIn K mainGlobals "MOST_SPOTS" = some (some (.int 60 tn_MOST_SPOTS)))
    (qb27 : cd27 = .ref k27c) (qe27 : k27P ∈ ts) (qc27 : PySem.W.codeHdIn K k27c k27P = true) (qd27 : K.lookup k27P = none)
    (x2 : PySem.W.excIn K f2 [.type "ValueError", .type "Exception", .type "BaseException", .type "object"] "ValueError.__new__" = true)
    (kc2 : PySem.W.keepIn K (.ref f2) = true)
    (s2 : PySem.W.subIn K (.ref f2) (.type "BaseException") = some true)
    (t2 : PySem.W.typeIn K (.ref f2) = some (.type "type"))
    (x3 : PySem.W.excIn K f3 [.type "ValueError", .type "Exception", .type "BaseException", .type "object"] "ValueError.__new__" = true)
    (kc3 : PySem.W.keepIn K (.ref f3) = true)
    (s3 : PySem.W.subIn K (.ref f3) (.type "BaseException") = some true)
    (t3 : PySem.W.typeIn K (.ref f3) = some (.type "type"))
    (s1 : PySem.W.subIn K (.ref f1) (.type "BaseException") = some true)
    (i1 : PySem.W.isClsIn K f1 = true)
    (t1 : PySem.W.typeIn K (.ref f1) = some (.type "type"))
    (u2_1 : PySem.W.subIn K (.ref f2) (.ref f1) = some true)
    (u3_1 : PySem.W.subIn K (.ref f3) (.ref f1) = some true)
    (hg2 : PySem.W.findIn K (.ref f2) "__getattribute__" = some (some (.builtin "BaseException.__getattribute__")))
    (hk2 : PySem.W.findIn K (.ref f2) "__getattr__" = some none)
    (hd2 : PySem.W.hasDictIn K f2 = true)
    (ha2 : PySem.W.findIn K (.ref f2) "__class__" = some (some (.builtin "object.__class__")))
    (hn : PySem.W.specialIn K (.builtin "object.__class__") "__get__" = some (some (.builtin "getset_descriptor.__get__")))
    (ht : PySem.W.takesIn K (.builtin "object.__class__") = some true)
    (hm2 : PySem.W.mroIn K f2 (.type "object") = some true)
    (hg3 : PySem.W.findIn K (.ref f3) "__getattribute__" = some (some (.builtin "BaseException.__getattribute__")))
    (hk3 : PySem.W.findIn K (.ref f3) "__getattr__" = some none)
    (hd3 : PySem.W.hasDictIn K f3 = true)
    (ha3 : PySem.W.findIn K (.ref f3) "__class__" = some (some (.builtin "object.__class__")))
    (hm3 : PySem.W.mroIn K f3 (.type "object") = some true)
    (i3 : PySem.W.isClsIn K f3 = true)
    (u2_3 : PySem.W.subIn K (.ref f2) (.ref f3) = some false)
    (ne2_3 : (f2 == f3) = false)
    (i4 : PySem.W.isClsIn K f4 = true)
    (t4 : PySem.W.typeIn K (.ref f4) = some (.type "type"))
    (u2_4 : PySem.W.subIn K (.ref f2) (.ref f4) = some false)
    (ne2_4 : (f2 == f4) = false)
    (i5 : PySem.W.isClsIn K f5 = true)
    (t5 : PySem.W.typeIn K (.ref f5) = some (.type "type"))
    (u2_5 : PySem.W.subIn K (.ref f2) (.ref f5) = some false)
    (ne2_5 : (f2 == f5) = false)
    (i6 : PySem.W.isClsIn K f6 = true)
    (t6 : PySem.W.typeIn K (.ref f6) = some (.type "type"))
    (u2_6 : PySem.W.subIn K (.ref f2) (.ref f6) = some false)
    (ne2_6 : (f2 == f6) = false)
    (i2 : PySem.W.isClsIn K f2 = true)
    (u3_2 : PySem.W.subIn K (.ref f3) (.ref f2) = some false)
    (ne3_2 : (f3 == f2) = false)
    (u3_4 : PySem.W.subIn K (.ref f3) (.ref f4) = some false)
    (ne3_4 : (f3 == f4) = false)
    (u3_5 : PySem.W.subIn K (.ref f3) (.ref f5) = some false)
    (ne3_5 : (f3 == f5) = false)
    (u3_6 : PySem.W.subIn K (.ref f3) (.ref f6) = some false)
    (ne3_6 : (f3 == f6) = false) :
    ∃ (fd : FuncData) (cs : List (Addr × Addr)) (T : List (Addr × Str)), (∀ p ∈ cs, h.get? p.2 = some { cls := .none, data := .fields #[] }) ∧ (∀ p ∈ cs, K.lookup p.2 = none) ∧ (∀ p ∈ cs, PySem.W.CodeHd h p.1 p.2) ∧ (∀ (s : Shared) (u : Value), BindsTo s fd ⟨[u], []⟩ [("script", u)]) ∧ (∀ p ∈ T, ∃ c ∈ cs, c.2 = p.1) ∧
        ∀ base : Heap, K.In base → base.Ns mainGlobals mg → (∀ p ∈ cs, LamX.TabB base mg p.1 p.2) → FnOk P w K mg base (L2N.CX P w) 10 fa fd ["script"] (spEnd K T) := by
  have e := hfa.symm.trans (PySem.W.mg_of X G a46)
  cases e
  have F30 := fun_mk (st := topS 30) l30 c30 k30
  have B30 := F30.binds (ps := ["script"]) fun _ _ _ _ _ _ us hl => match us, hl with | [_], _ => rfl
  have F31 := fun_mk (st := topS 31) l31 c31 k31
  have B31 := F31.binds (ps := ["draws", "bound"]) fun _ _ _ _ _ _ us hl => match us, hl with | [_, _], _ => rfl
  have F32 := fun_mk (st := topS 32) l32 c32 k32
  have B32 := F32.binds (ps := ["draws", "some"]) fun _ _ _ _ _ _ us hl => match us, hl with | [_, _], _ => rfl
  have F39 := fun_mk (st := topS 39) l39 c39 k39
  have B39 := F39.binds (ps := ["draws", "most"]) fun _ _ _ _ _ _ us hl => match us, hl with | [_, _], _ => rfl
  have F40 := fun_mk (st := topS 40) l40 c40 k40
  have B40 := F40.binds (ps := ["draws", "many"]) fun _ _ _ _ _ _ us hl => match us, hl with | [_, _], _ => rfl
  have F35 := fun_mk (st := topS 35) l35 c35 k35
  have B35 := F35.binds (ps := ["draws", "some"]) fun _ _ _ _ _ _ us hl => match us, hl with | [_, _], _ => rfl
  have F33 := fun_mk (st := topS 33) l33 c33 k33
  have B33 := F33.binds (ps := ["actual", "due"]) fun _ _ _ _ _ _ us hl => match us, hl with | [_, _], _ => rfl
  have F9 := fun_mk (st := topS 9) l9 c9 k9
  have B9 := F9.binds (ps := ["values"]) fun _ _ _ _ _ _ us hl => match us, hl with | [_], _ => rfl
  have F7 := fun_mk (st := topS 7) l7 c7 k7
  have B7 := F7.binds (ps := ["value"]) fun _ _ _ _ _ _ us hl => match us, hl with | [_], _ => rfl
  have F8 := fun_mk (st := topS 8) l8 c8 k8
  have B8 := F8.binds (ps := ["value", "low", "high"]) fun _ _ _ _ _ _ us hl => match us, hl with | [_, _, _], _ => rfl
  have F16 := fun_mk (st := topS 16) l16 c16 k16
  have B16 := F16.binds (ps := ["value"]) fun _ _ _ _ _ _ us hl => match us, hl with | [_], _ => rfl
  have F17 := fun_mk (st := topS 17) l17 c17 k17
  have B17 := F17.binds (ps := ["value"]) fun _ _ _ _ _ _ us hl => match us, hl with | [_], _ => rfl
  have F20 := fun_mk (st := topS 20) l20 c20 k20
  have B20 := F20.binds (ps := ["spots"]) fun _ _ _ _ _ _ us hl => match us, hl with | [_], _ => rfl
  have F22 := fun_mk (st := topS 22) l22 c22 k22
  have B22 := F22.binds (ps := ["a", "b", "c"]) fun _ _ _ _ _ _ us hl => match us, hl with | [_, _, _], _ => rfl
  have F28 := fun_mk (st := topS 28) l28 c28 k28
  have B28 := F28.binds (ps := ["spots"]) fun _ _ _ _ _ _ us hl => match us, hl with | [_], _ => rfl
  have F34 := fun_mk (st := topS 34) l34 c34 k34
  have B34 := F34.binds (ps := ["e"]) fun _ _ _ _ _ _ us hl => match us, hl with | [_], _ => rfl
  have F18 := fun_mk (st := topS 18) l18 c18 k18
  have B18 := F18.binds (ps := ["value"]) fun _ _ _ _ _ _ us hl => match us, hl with | [_], _ => rfl
  have F21 := fun_mk (st := topS 21) l21 c21 k21
  have B21 := F21.binds (ps := ["stretches"]) fun _ _ _ _ _ _ us hl => match us, hl with | [_], _ => rfl
  have F10 := fun_mk (st := topS 10) l10 c10 k10
  have B10 := F10.binds (ps := ["n", "d"]) fun _ _ _ _ _ _ us hl => match us, hl with | [_, _], _ => rfl
  have F11 := fun_mk (st := topS 11) l11 c11 k11
  have B11 := F11.binds (ps := ["n", "d"]) fun _ _ _ _ _ _ us hl => match us, hl with | [_, _], _ => rfl
  have F23 := fun_mk (st := topS 23) l23 c23 k23
  have B23 := F23.binds (ps := ["one", "other"]) fun _ _ _ _ _ _ us hl => match us, hl with | [_, _], _ => rfl
  have F24 := fun_mk (st := topS 24) l24 c24 k24
  have B24 := F24.binds (ps := ["one", "other"]) fun _ _ _ _ _ _ us hl => match us, hl with | [_, _], _ => rfl
  have F19 := fun_mk (st := topS 19) l19 c19 k19
  have B19 := F19.binds (ps := ["points"]) fun _ _ _ _ _ _ us hl => match us, hl with | [_], _ => rfl
  have F26 := fun_mk (st := topS 26) l26 c26 k26
  have B26 := F26.binds (ps := ["x", "y"]) fun _ _ _ _ _ _ us hl => match us, hl with | [_, _], _ => rfl
  have F25 := fun_mk (st := topS 25) l25 c25 k25
  have B25 := F25.binds (ps := ["a", "b"]) fun _ _ _ _ _ _ us hl => match us, hl with | [_, _], _ => rfl
  have F27 := fun_mk (st := topS 27) l27 c27 k27
  have B27 := F27.binds (ps := ["center", "points"]) fun _ _ _ _ _ _ us hl => match us, hl with | [_, _], _ => rfl
  have F45 := fun_mk (st := topS 45) l45 c45 k45
  have B45 := F45.binds (ps := ["which", "one", "other"]) fun _ _ _ _ _ _ us hl => match us, hl with | [_, _, _], _ => rfl
  have F38 := fun_mk (st := topS 38) l38 c38 k38
  have B38 := F38.binds (ps := ["a", "b", "c"]) fun _ _ _ _ _ _ us hl => match us, hl with | [_, _, _], _ => rfl
  have F42 := fun_mk (st := topS 42) l42 c42 k42
  have B42 := F42.binds (ps := ["center", "point"]) fun _ _ _ _ _ _ us hl => match us, hl with | [_, _], _ => rfl
  have F43 := fun_mk (st := topS 43) l43 c43 k43
  have B43 := F43.binds (ps := ["center", "one", "other"]) fun _ _ _ _ _ _ us hl => match us, hl with | [_, _, _], _ => rfl
  have F44 := fun_mk (st := topS 44) l44 c44 k44
  have B44 := F44.binds (ps := ["center", "points"]) fun _ _ _ _ _ _ us hl => match us, hl with | [_, _], _ => rfl
  have F36 := fun_mk (st := topS 36) l36 c36 k36
  have B36 := F36.binds (ps := ["a", "b"]) fun _ _ _ _ _ _ us hl => match us, hl with | [_, _], _ => rfl
  have F37 := fun_mk (st := topS 37) l37 c37 k37
  have B37 := F37.binds (ps := ["n", "d"]) fun _ _ _ _ _ _ us hl => match us, hl with | [_, _], _ => rfl
  have F41 := fun_mk (st := topS 41) l41 c41 k41
  have B41 := F41.binds (ps := ["one", "other"]) fun _ _ _ _ _ _ us hl => match us, hl with | [_, _], _ => rfl
  have F46 := fun_mk (st := topS 46) l46 c46 k46
  have B46 := F46.binds (ps := ["script"]) fun _ _ _ _ _ _ us hl => match us, hl with | [_], _ => rfl
  refine ⟨PySem.W.fnOf "law" "law" (defArgs (topS 46)) (defBody (topS 46)) (defScope (topS 46)) .none kV46 dc46 pm46 an46 cd46 ct46, [(k27c, k27P)], [(k27P, "around.<locals>.<lambda>")], by simp only [List.forall_mem_cons, List.not_mem_nil, false_imp_iff, implies_true, and_true]; exact hT _ qe27, by simp only [List.forall_mem_cons, List.not_mem_nil, false_imp_iff, implies_true, and_true]; exact qd27, by simp only [List.forall_mem_cons, List.not_mem_nil, false_imp_iff, implies_true, and_true]; exact PySem.W.codeHd_of_K X qc27, fun s v => .of_eq rfl, by simp, fun base _ _ hb => ?_⟩
  have T : Txt K mg base ⟨fun n => if n = 1 then f1 else if n = 2 then f2 else if n = 3 then f3 else if n = 4 then f4 else if n = 5 then f5 else if n = 6 then f6 else if n = 7 then f7 else if n = 8 then f8 else if n = 9 then f9 else if n = 10 then f10 else if n = 11 then f11 else if n = 16 then f16 else if n = 17 then f17 else if n = 18 then f18 else if n = 19 then f19 else if n = 20 then f20 else if n = 21 then f21 else if n = 22 then f22 else if n = 23 then f23 else if n = 24 then f24 else if n = 25 then f25 else if n = 26 then f26 else if n = 27 then f27 else if n = 28 then f28 else if n = 30 then f30 else if n = 31 then f31 else if n = 32 then f32 else if n = 33 then f33 else if n = 34 then f34 else if n = 35 then f35 else if n = 36 then f36 else if n = 37 then f37 else if n = 38 then f38 else if n = 39 then f39 else if n = 40 then f40 else if n = 41 then f41 else if n = 42 then f42 else if n = 43 then f43 else if n = 44 then f44 else if n = 45 then f45 else if n = 46 then fa else 0, [(k27P, "around.<locals>.<lambda>")]⟩ (fun n => if n = 30 then PySem.W.fnOf "_law_draws" "_law_draws" (defArgs (topS 30)) (defBody (topS 30)) (defScope (topS 30)) .none kV30 dc30 pm30 an30 cd30 ct30 else if n = 31 then PySem.W.fnOf "_law_take" "_law_take" (defArgs (topS 31)) (defBody (topS 31)) (defScope (topS 31)) .none kV31 dc31 pm31 an31 cd31 ct31 else if n = 32 then PySem.W.fnOf "_law_pick" "_law_pick" (defArgs (topS 32)) (defBody (topS 32)) (defScope (topS 32)) .none kV32 dc32 pm32 an32 cd32 ct32 else if n = 39 then PySem.W.fnOf "_law_point" "_law_point" (defArgs (topS 39)) (defBody (topS 39)) (defScope (topS 39)) .none kV39 dc39 pm39 an39 cd39 ct39 else if n = 40 then PySem.W.fnOf "_law_spots" "_law_spots" (defArgs (topS 40)) (defBody (topS 40)) (defScope (topS 40)) .none kV40 dc40 pm40 an40 cd40 ct40 else if n = 35 then PySem.W.fnOf "_law_mixed" "_law_mixed" (defArgs (topS 35)) (defBody (topS 35)) (defScope (topS 35)) .none kV35 dc35 pm35 an35 cd35 ct35 else if n = 33 then PySem.W.fnOf "_law_same" "_law_same" (defArgs (topS 33)) (defBody (topS 33)) (defScope (topS 33)) .none kV33 dc33 pm33 an33 cd33 ct33 else if n = 9 then PySem.W.fnOf "are_ascending" "are_ascending" (defArgs (topS 9)) (defBody (topS 9)) (defScope (topS 9)) .none kV9 dc9 pm9 an9 cd9 ct9 else if n = 7 then PySem.W.fnOf "is_integer" "is_integer" (defArgs (topS 7)) (defBody (topS 7)) (defScope (topS 7)) .none kV7 dc7 pm7 an7 cd7 ct7 else if n = 8 then PySem.W.fnOf "is_within" "is_within" (defArgs (topS 8)) (defBody (topS 8)) (defScope (topS 8)) .none kV8 dc8 pm8 an8 cd8 ct8 else if n = 16 then PySem.W.fnOf "is_point" "is_point" (defArgs (topS 16)) (defBody (topS 16)) (defScope (topS 16)) .none kV16 dc16 pm16 an16 cd16 ct16 else if n = 17 then PySem.W.fnOf "are_spots" "are_spots" (defArgs (topS 17)) (defBody (topS 17)) (defScope (topS 17)) .none kV17 dc17 pm17 an17 cd17 ct17 else if n = 20 then PySem.W.fnOf "check_spots" "check_spots" (defArgs (topS 20)) (defBody (topS 20)) (defScope (topS 20)) .none kV20 dc20 pm20 an20 cd20 ct20 else if n = 22 then PySem.W.fnOf "turned" "turned" (defArgs (topS 22)) (defBody (topS 22)) (defScope (topS 22)) .none kV22 dc22 pm22 an22 cd22 ct22 else if n = 28 then PySem.W.fnOf "in_line" "in_line" (defArgs (topS 28)) (defBody (topS 28)) (defScope (topS 28)) .none kV28 dc28 pm28 an28 cd28 ct28 else if n = 34 then PySem.W.fnOf "_law_flags" "_law_flags" (defArgs (topS 34)) (defBody (topS 34)) (defScope (topS 34)) .none kV34 dc34 pm34 an34 cd34 ct34 else if n = 18 then PySem.W.fnOf "is_stretch" "is_stretch" (defArgs (topS 18)) (defBody (topS 18)) (defScope (topS 18)) .none kV18 dc18 pm18 an18 cd18 ct18 else if n = 21 then PySem.W.fnOf "check_stretches" "check_stretches" (defArgs (topS 21)) (defBody (topS 21)) (defScope (topS 21)) .none kV21 dc21 pm21 an21 cd21 ct21 else if n = 10 then PySem.W.fnOf "shared" "shared" (defArgs (topS 10)) (defBody (topS 10)) (defScope (topS 10)) .none kV10 dc10 pm10 an10 cd10 ct10 else if n = 11 then PySem.W.fnOf "made" "made" (defArgs (topS 11)) (defBody (topS 11)) (defScope (topS 11)) .none kV11 dc11 pm11 an11 cd11 ct11 else if n = 23 then PySem.W.fnOf "meeting_by" "meeting_by" (defArgs (topS 23)) (defBody (topS 23)) (defScope (topS 23)) .none kV23 dc23 pm23 an23 cd23 ct23 else if n = 24 then PySem.W.fnOf "meeting" "meeting" (defArgs (topS 24)) (defBody (topS 24)) (defScope (topS 24)) .none kV24 dc24 pm24 an24 cd24 ct24 else if n = 19 then PySem.W.fnOf "check_points" "check_points" (defArgs (topS 19)) (defBody (topS 19)) (defScope (topS 19)) .none kV19 dc19 pm19 an19 cd19 ct19 else if n = 26 then PySem.W.fnOf "angle" "angle" (defArgs (topS 26)) (defBody (topS 26)) (defScope (topS 26)) .none kV26 dc26 pm26 an26 cd26 ct26 else if n = 25 then PySem.W.fnOf "distance_by" "distance_by" (defArgs (topS 25)) (defBody (topS 25)) (defScope (topS 25)) .none kV25 dc25 pm25 an25 cd25 ct25 else if n = 27 then PySem.W.fnOf "around" "around" (defArgs (topS 27)) (defBody (topS 27)) (defScope (topS 27)) .none kV27 dc27 pm27 an27 cd27 ct27 else if n = 45 then PySem.W.fnOf "_law_told" "_law_told" (defArgs (topS 45)) (defBody (topS 45)) (defScope (topS 45)) .none kV45 dc45 pm45 an45 cd45 ct45 else if n = 38 then PySem.W.fnOf "_law_turn" "_law_turn" (defArgs (topS 38)) (defBody (topS 38)) (defScope (topS 38)) .none kV38 dc38 pm38 an38 cd38 ct38 else if n = 42 then PySem.W.fnOf "_law_half" "_law_half" (defArgs (topS 42)) (defBody (topS 42)) (defScope (topS 42)) .none kV42 dc42 pm42 an42 cd42 ct42 else if n = 43 then PySem.W.fnOf "_law_is_ahead" "_law_is_ahead" (defArgs (topS 43)) (defBody (topS 43)) (defScope (topS 43)) .none kV43 dc43 pm43 an43 cd43 ct43 else if n = 44 then PySem.W.fnOf "_law_around" "_law_around" (defArgs (topS 44)) (defBody (topS 44)) (defScope (topS 44)) .none kV44 dc44 pm44 an44 cd44 ct44 else if n = 36 then PySem.W.fnOf "_law_common" "_law_common" (defArgs (topS 36)) (defBody (topS 36)) (defScope (topS 36)) .none kV36 dc36 pm36 an36 cd36 ct36 else if n = 37 then PySem.W.fnOf "_law_ratio" "_law_ratio" (defArgs (topS 37)) (defBody (topS 37)) (defScope (topS 37)) .none kV37 dc37 pm37 an37 cd37 ct37 else if n = 41 then PySem.W.fnOf "_law_meeting" "_law_meeting" (defArgs (topS 41)) (defBody (topS 41)) (defScope (topS 41)) .none kV41 dc41 pm41 an41 cd41 ct41 else PySem.W.fnOf "law" "law" (defArgs (topS 46)) (defBody (topS 46)) (defScope (topS 46)) .none kV46 dc46 pm46 an46 cd46 ct46) (fun n => if n = 27 then k27c else 0) (fun n => if n = 27 then k27P else 0) :=
    { m30 := PySem.W.mg_of X G a30,
      f30 := F30,
      b30 := B30,
      m31 := PySem.W.mg_of X G a31,
      f31 := F31,
      b31 := B31,
      m32 := PySem.W.mg_of X G a32,
      f32 := F32,
      b32 := B32,
      m39 := PySem.W.mg_of X G a39,
      f39 := F39,
      b39 := B39,
      m40 := PySem.W.mg_of X G a40,
      f40 := F40,
      b40 := B40,
      m35 := PySem.W.mg_of X G a35,
      f35 := F35,
      b35 := B35,
      m33 := PySem.W.mg_of X G a33,
      f33 := F33,
      b33 := B33,
      m9 := PySem.W.mg_of X G a9,
      f9 := F9,
      b9 := B9,
      m7 := PySem.W.mg_of X G a7,
      f7 := F7,
      b7 := B7,
      m8 := PySem.W.mg_of X G a8,
      f8 := F8,
      b8 := B8,
      m16 := PySem.W.mg_of X G a16,
      f16 := F16,
      b16 := B16,
      m17 := PySem.W.mg_of X G a17,
      f17 := F17,
      b17 := B17,
      m20 := PySem.W.mg_of X G a20,
      f20 := F20,
      b20 := B20,
      m22 := PySem.W.mg_of X G a22,
      f22 := F22,
      b22 := B22,
      m28 := PySem.W.mg_of X G a28,
      f28 := F28,
      b28 := B28,
      m34 := PySem.W.mg_of X G a34,
      f34 := F34,
      b34 := B34,
      m18 := PySem.W.mg_of X G a18,
      f18 := F18,
      b18 := B18,
      m21 := PySem.W.mg_of X G a21,
      f21 := F21,
      b21 := B21,
      m10 := PySem.W.mg_of X G a10,
      f10 := F10,
      b10 := B10,
      m11 := PySem.W.mg_of X G a11,
      f11 := F11,
      b11 := B11,
      m23 := PySem.W.mg_of X G a23,
      f23 := F23,
      b23 := B23,
      m24 := PySem.W.mg_of X G a24,
      f24 := F24,
      b24 := B24,
      m19 := PySem.W.mg_of X G a19,
      f19 := F19,
      b19 := B19,
      m26 := PySem.W.mg_of X G a26,
      f26 := F26,
      b26 := B26,
      m25 := PySem.W.mg_of X G a25,
      f25 := F25,
      b25 := B25,
      m27 := PySem.W.mg_of X G a27,
      f27 := F27,
      b27 := B27,
      m45 := PySem.W.mg_of X G a45,
      f45 := F45,
      b45 := B45,
      m38 := PySem.W.mg_of X G a38,
      f38 := F38,
      b38 := B38,
      m42 := PySem.W.mg_of X G a42,
      f42 := F42,
      b42 := B42,
      m43 := PySem.W.mg_of X G a43,
      f43 := F43,
      b43 := B43,
      m44 := PySem.W.mg_of X G a44,
      f44 := F44,
      b44 := B44,
      m36 := PySem.W.mg_of X G a36,
      f36 := F36,
      b36 := B36,
      m37 := PySem.W.mg_of X G a37,
      f37 := F37,
      b37 := B37,
      m41 := PySem.W.mg_of X G a41,
      f41 := F41,
      b41 := B41,
      m46 := PySem.W.mg_of X G a46,
      f46 := F46,
      b46 := B46,
      m1 := PySem.W.mg_of X G a1,
      m2 := PySem.W.mg_of X G a2,
      m3 := PySem.W.mg_of X G a3,
      m4 := PySem.W.mg_of X G a4,
      m5 := PySem.W.mg_of X G a5,
      m6 := PySem.W.mg_of X G a6,
      z_abs := PySem.W.mg_none_of X G z_abs,
      z_all := PySem.W.mg_none_of X G z_all,
      z_bool := PySem.W.mg_none_of X G z_bool,
      z_dict := PySem.W.mg_none_of X G z_dict,
      z_enumerate := PySem.W.mg_none_of X G z_enumerate,
      z_int := PySem.W.mg_none_of X G z_int,
      z_isinstance := PySem.W.mg_none_of X G z_isinstance,
      z_len := PySem.W.mg_none_of X G z_len,
      z_list := PySem.W.mg_none_of X G z_list,
      z_max := PySem.W.mg_none_of X G z_max,
      z_range := PySem.W.mg_none_of X G z_range,
      z_reversed := PySem.W.mg_none_of X G z_reversed,
      z_set := PySem.W.mg_none_of X G z_set,
      z_sorted := PySem.W.mg_none_of X G z_sorted,
      z_str := PySem.W.mg_none_of X G z_str,
      z_tuple := PySem.W.mg_none_of X G z_tuple,
      z_zip := PySem.W.mg_none_of X G z_zip,
      n_FARTHEST := ⟨tn_FARTHEST, PySem.W.mg_of X G an_FARTHEST⟩,
      n_FINE := ⟨tn_FINE, PySem.W.mg_of X G an_FINE⟩,
      n_MOST_SPOTS := ⟨tn_MOST_SPOTS, PySem.W.mg_of X G an_MOST_SPOTS⟩,
      cc27 := qb27,
      tb27 := hb (k27c, k27P) (by simp),
      tm27 := by simp,
      tu27 := fun t ht e => by simp at ht; rw [ht],
      x2 := x2,
      c2 := kc2,
      s2 := s2,
      t2 := t2,
      x3 := x3,
      c3 := kc3,
      s3 := s3,
      t3 := t3,
      e2_1 := exm_own s1 i1 t1 u2_1,
      e3_1 := exm_own s1 i1 t1 u3_1,
      xc2 := ⟨hg2, hk2, s2, hd2, ha2, hn, ht, hm2⟩,
      xc3 := ⟨hg3, hk3, s3, hd3, ha3, hn, ht, hm3⟩,
      k2_2 := kit_refl,
      k2_3 := kit_ref ne2_3 i3 t3 u2_3,
      k2_4 := kit_ref ne2_4 i4 t4 u2_4,
      k2_5 := kit_ref ne2_5 i5 t5 u2_5,
      k2_6 := kit_ref ne2_6 i6 t6 u2_6,
      k3_2 := kit_ref ne3_2 i2 t2 u3_2,
      k3_3 := kit_refl,
      k3_4 := kit_ref ne3_4 i4 t4 u3_4,
      k3_5 := kit_ref ne3_5 i5 t5 u3_5,
      k3_6 := kit_ref ne3_6 i6 t6 u3_6 }
  exact law_of (ok_law T) law_true
end Lw
open PySem PySem.W PyProof.Rows
set_option maxHeartbeats 0 in
theorem PySem.Challenge.cw_polyward_k02_whole_meetings_orders_aroun_holds : PySem.Challenge.rw_polyward_k02_whole_meetings_orders_aroun.Holds := by
  w_on; o_law; k_head; (case hw => w_witness2)
  k_fill
  refine DL.end_walkT (l := PySem.Challenge.rw_polyward_k02_whole_meetings_orders_aroun) (k := 10) rfl rfl ⟨rfl, by decide, by decide⟩ (fun w h Y => PySem.W.km_in_of Y) ?F
  case F =>
    intro w mg fa h Y KX G hmg
    refine' Lw.all_mk KX G hmg (PySem.W.km_tabs_of Y) ?a30 ?l30 ?c30 ?k30 ?a31 ?l31 ?c31 ?k31 ?a32 ?l32 ?c32 ?k32 ?a39 ?l39 ?c39 ?k39 ?a40 ?l40 ?c40 ?k40 ?a35 ?l35 ?c35 ?k35 ?a33 ?l33 ?c33 ?k33 ?a9 ?l9 ?c9 ?k9 ?a7 ?l7 ?c7 ?k7 ?a8 ?l8 ?c8 ?k8 ?a16 ?l16 ?c16 ?k16 ?a17 ?l17 ?c17 ?k17 ?a20 ?l20 ?c20 ?k20 ?a22 ?l22 ?c22 ?k22 ?a28 ?l28 ?c28 ?k28 ?a34 ?l34 ?c34 ?k34 ?a18 ?l18 ?c18 ?k18 ?a21 ?l21 ?c21 ?k21 ?a10 ?l10 ?c10 ?k10 ?a11 ?l11 ?c11 ?k11 ?a23 ?l23 ?c23 ?k23 ?a24 ?l24 ?c24 ?k24 ?a19 ?l19 ?c19 ?k19 ?a26 ?l26 ?c26 ?k26 ?a25 ?l25 ?c25 ?k25 ?a27 ?l27 ?c27 ?k27 ?a45 ?l45 ?c45 ?k45 ?a38 ?l38 ?c38 ?k38 ?a42 ?l42 ?c42 ?k42 ?a43 ?l43 ?c43 ?k43 ?a44 ?l44 ?c44 ?k44 ?a36 ?l36 ?c36 ?k36 ?a37 ?l37 ?c37 ?k37 ?a41 ?l41 ?c41 ?k41 ?a46 ?l46 ?c46 ?k46 ?a1 ?a2 ?a3 ?a4 ?a5 ?a6 ?z_abs ?z_all ?z_bool ?z_dict ?z_enumerate ?z_int ?z_isinstance ?z_len ?z_list ?z_max ?z_range ?z_reversed ?z_set ?z_sorted ?z_str ?z_tuple ?z_zip ?an_FARTHEST ?an_FINE ?an_MOST_SPOTS ?qb27 ?qe27 ?qc27 ?qd27 ?x2 ?kc2 ?s2 ?t2 ?x3 ?kc3 ?s3 ?t3 ?s1 ?i1 ?t1 ?u2_1 ?u3_1 ?hg2 ?hk2 ?hd2 ?ha2 ?hn ?ht ?hm2 ?hg3 ?hk3 ?hd3 ?ha3 ?hm3 ?i3 ?u2_3 ?ne2_3 ?i4 ?t4 ?u2_4 ?ne2_4 ?i5 ?t5 ?u2_5 ?ne2_5 ?i6 ?t6 ?u2_6 ?ne2_6 ?i2 ?u3_2 ?ne3_2 ?u3_4 ?ne3_4 ?u3_5 ?ne3_5 ?u3_6 ?ne3_6
    (case a30 => k_is)
    (case l30 => k_is)
    (case c30 => k_is)
    (case k30 => k_is)
    (case a31 => k_is)
    (case l31 => k_is)
    (case c31 => k_is)
    (case k31 => k_is)
    (case a32 => k_is)
    (case l32 => k_is)
    (case c32 => k_is)
    (case k32 => k_is)
    (case a39 => k_is)
    (case l39 => k_is)
    (case c39 => k_is)
    (case k39 => k_is)
    (case a40 => k_is)
    (case l40 => k_is)
    (case c40 => k_is)
    (case k40 => k_is)
    (case a35 => k_is)
    (case l35 => k_is)
    (case c35 => k_is)
    (case k35 => k_is)
    (case a33 => k_is)
    (case l33 => k_is)
    (case c33 => k_is)
    (case k33 => k_is)
    (case a9 => k_is)
    (case l9 => k_is)
    (case c9 => k_is)
    (case k9 => k_is)
    (case a7 => k_is)
    (case l7 => k_is)
    (case c7 => k_is)
    (case k7 => k_is)
    (case a8 => k_is)
    (case l8 => k_is)
    (case c8 => k_is)
    (case k8 => k_is)
    (case a16 => k_is)
    (case l16 => k_is)
    (case c16 => k_is)
    (case k16 => k_is)
    (case a17 => k_is)
    (case l17 => k_is)
    (case c17 => k_is)
    (case k17 => k_is)
    (case a20 => k_is)
    (case l20 => k_is)
    (case c20 => k_is)
    (case k20 => k_is)
    (case a22 => k_is)
    (case l22 => k_is)
    (case c22 => k_is)
    (case k22 => k_is)
    (case a28 => k_is)
    (case l28 => k_is)
    (case c28 => k_is)
    (case k28 => k_is)
    (case a34 => k_is)
    (case l34 => k_is)
    (case c34 => k_is)
    (case k34 => k_is)
    (case a18 => k_is)
    (case l18 => k_is)
    (case c18 => k_is)
    (case k18 => k_is)
    (case a21 => k_is)
    (case l21 => k_is)
    (case c21 => k_is)
    (case k21 => k_is)
    (case a10 => k_is)
    (case l10 => k_is)
    (case c10 => k_is)
    (case k10 => k_is)
    (case a11 => k_is)
    (case l11 => k_is)
    (case c11 => k_is)
    (case k11 => k_is)
    (case a23 => k_is)
    (case l23 => k_is)
    (case c23 => k_is)
    (case k23 => k_is)
    (case a24 => k_is)
    (case l24 => k_is)
    (case c24 => k_is)
    (case k24 => k_is)
    (case a19 => k_is)
    (case l19 => k_is)
    (case c19 => k_is)
    (case k19 => k_is)
    (case a26 => k_is)
    (case l26 => k_is)
    (case c26 => k_is)
    (case k26 => k_is)
    (case a25 => k_is)
    (case l25 => k_is)
    (case c25 => k_is)
    (case k25 => k_is)
    (case a27 => k_is)
    (case l27 => k_is)
    (case c27 => k_is)
    (case k27 => k_is)
    (case a45 => k_is)
    (case l45 => k_is)
    (case c45 => k_is)
    (case k45 => k_is)
    (case a38 => k_is)
    (case l38 => k_is)
    (case c38 => k_is)
    (case k38 => k_is)
    (case a42 => k_is)
    (case l42 => k_is)
    (case c42 => k_is)
    (case k42 => k_is)
    (case a43 => k_is)
    (case l43 => k_is)
    (case c43 => k_is)
    (case k43 => k_is)
    (case a44 => k_is)
    (case l44 => k_is)
    (case c44 => k_is)
    (case k44 => k_is)
    (case a36 => k_is)
    (case l36 => k_is)
    (case c36 => k_is)
    (case k36 => k_is)
    (case a37 => k_is)
    (case l37 => k_is)
    (case c37 => k_is)
    (case k37 => k_is)
    (case a41 => k_is)
    (case l41 => k_is)
    (case c41 => k_is)
    (case k41 => k_is)
    (case a46 => k_is)
    (case l46 => k_is)
    (case c46 => k_is)
    (case k46 => k_is)
    (case a1 => k_is)
    (case a2 => k_is)
    (case a3 => k_is)
    (case a4 => k_is)
    (case a5 => k_is)
    (case a6 => k_is)
    (case z_abs => k_is)
    (case z_all => k_is)
    (case z_bool => k_is)
    (case z_dict => k_is)
    (case z_enumerate => k_is)
    (case z_int => k_is)
    (case z_isinstance => k_is)
    (case z_len => k_is)
    (case z_list => k_is)
    (case z_max => k_is)
    (case z_range => k_is)
    (case z_reversed => k_is)
    (case z_set => k_is)
    (case z_sorted => k_is)
    (case z_str => k_is)
    (case z_tuple => k_is)
    (case z_zip => k_is)
    (case an_FARTHEST => k_is)
    (case an_FINE => k_is)
    (case an_MOST_SPOTS => k_is)
    (case qb27 => rfl)
    (case qe27 => exact List.mem_cons_self)
    (case qc27 => kernel_rfl)
    (case qd27 => kernel_rfl)
    (case x2 => k_exc)
    (case kc2 => k_is)
    (case s2 => k_is)
    (case t2 => k_is)
    (case x3 => k_exc)
    (case kc3 => k_is)
    (case s3 => k_is)
    (case t3 => k_is)
    (case s1 => k_is)
    (case i1 => k_is)
    (case t1 => k_is)
    (case u2_1 => k_is)
    (case u3_1 => k_is)
    (case hg2 => k_is)
    (case hk2 => k_is)
    (case hd2 => k_is)
    (case ha2 => k_is)
    (case hn => k_is)
    (case ht => k_is)
    (case hm2 => k_is)
    (case hg3 => k_is)
    (case hk3 => k_is)
    (case hd3 => k_is)
    (case ha3 => k_is)
    (case hm3 => k_is)
    (case i3 => k_is)
    (case u2_3 => k_is)
    (case ne2_3 => decide)
    (case i4 => k_is)
    (case t4 => k_is)
    (case u2_4 => k_is)
    (case ne2_4 => decide)
    (case i5 => k_is)
    (case t5 => k_is)
    (case u2_5 => k_is)
    (case ne2_5 => decide)
    (case i6 => k_is)
    (case t6 => k_is)
    (case u2_6 => k_is)
    (case ne2_6 => decide)
    (case i2 => k_is)
    (case u3_2 => k_is)
    (case ne3_2 => decide)
    (case u3_4 => k_is)
    (case ne3_4 => decide)
    (case u3_5 => k_is)
    (case ne3_5 => decide)
    (case u3_6 => k_is)
    (case ne3_6 => decide)
#print axioms PySem.Challenge.cw_polyward_k02_whole_meetings_orders_aroun_holds

