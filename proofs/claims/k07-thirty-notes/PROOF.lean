import PyProof.Rows.All
import Wide.All
import OpenK.AllK
import Wide.FinOn
import HandS.ForMost
import KE.GoesNew
import HandS.Walk
import HandS.Wide
import HandS.Style
import HandS.TupAny
import HandS.IsInst
import HandS.SortInts
import HandS.SortRule
import HandS.Text
import HandS.Conv
import HandS.Set
import HandS.Strs
import HandS.More
import HandS.Dict
import HandS.DictComp
import PyProof.ReprRoads
import HandS.SetFor
import HandS.Ends
import PySem.Challenge.RW_inkandlead_k07_whole_thirty_notes_in_the
import PyProof.ReprLen
import PyProof.FitsInt
set_option Elab.async false
set_option linter.all false
set_option maxRecDepth 100000
/-! DL: data in place of the heap. A value stands for a datum (PyData); what is frozen stands in F, a part of the heap H that only grows;
a slot holds a frozen datum, or owns a list or dict of its own. -/
namespace DL
open PySem PySem.Spec PyProof.Rows L2

abbrev PD := PyData
abbrev St := L2.St
def kD : Key → PD
  | .inl i => .int i
  | .inr x => .str x
mutual
inductive Rp (K : PySem.W.Frag) (F : Hp) : V → PD → Prop
  | non : Rp K F .non .none
  | bl (b : Bool) : Rp K F (.bl b) (.bool b)
  | int (i : Int) : Rp K F (.int i) (.int i)
  | str (x : Str) : Rp K F (.str x) (.str x)
  | lst {a : Addr} {xs : List V} {ds : List PD} : F a = some (.lst xs) → RpA K F xs ds → Rp K F (.ref a) (.list ds)
  | tup {a : Addr} {xs : List V} {ds : List PD} : F a = some (.tup xs) → RpA K F xs ds → Rp K F (.ref a) (.tuple ds)
  | dct {a : Addr} {kvs : List (Key × V)} {es : List (PD × PD)} : F a = some (.dK kvs) → RpK K F kvs es → Rp K F (.ref a) (.dict es)
inductive RpA (K : PySem.W.Frag) (F : Hp) : List V → List PD → Prop
  | nil : RpA K F [] []
  | cons {v : V} {vs : List V} {d : PD} {ds : List PD} : Rp K F v d → RpA K F vs ds → RpA K F (v :: vs) (d :: ds)
inductive RpK (K : PySem.W.Frag) (F : Hp) : List (Key × V) → List (PD × PD) → Prop
  | nil : RpK K F [] []
  | cons {k : Key} {v : V} {kvs : List (Key × V)} {d : PD} {es : List (PD × PD)} : Rp K F v d → RpK K F kvs es → RpK K F ((k, v) :: kvs) ((kD k, d) :: es)
end
theorem same_tup {K : PySem.W.Frag} {F G : Hp} {a : Addr} {xs : List V} (e : Same F G) (h : SqT K F a xs) : SqT K G a xs := by
  rcases h with (h | ⟨o, h⟩) | h
  · exact .inl (.inl (e _ _ h))
  · exact .inl (.inr ⟨o, e _ _ h⟩)
  · exact .inr h
mutual
theorem Rp.mono {K : PySem.W.Frag} {F G : Hp} (e : Same F G) : ∀ {v : V} {d : PD}, Rp K F v d → Rp K G v d
  | _, _, .non => .non
  | _, _, .bl b => .bl b
  | _, _, .int i => .int i
  | _, _, .str x => .str x
  | _, _, .lst h r => .lst (e _ _ h) (RpA.mono e r)
  | _, _, .tup h r => .tup (e _ _ h) (RpA.mono e r)
  | _, _, .dct h r => .dct (e _ _ h) (RpK.mono e r)
theorem RpA.mono {K : PySem.W.Frag} {F G : Hp} (e : Same F G) : ∀ {v : List V} {d : List PD}, RpA K F v d → RpA K G v d
  | _, _, .nil => .nil
  | _, _, .cons h r => .cons (Rp.mono e h) (RpA.mono e r)
theorem RpK.mono {K : PySem.W.Frag} {F G : Hp} (e : Same F G) : ∀ {v : List (Key × V)} {d : List (PD × PD)}, RpK K F v d → RpK K G v d
  | _, _, .nil => .nil
  | _, _, .cons h r => .cons (Rp.mono e h) (RpK.mono e r)
end
theorem RpA.len {K : PySem.W.Frag} {F : Hp} : ∀ {v : List V} {d : List PD}, RpA K F v d → v.length = d.length
  | _, _, .nil => rfl
  | _, _, .cons _ r => by rw [List.length_cons, List.length_cons, RpA.len r]
theorem RpA.get {K : PySem.W.Frag} {F : Hp} : ∀ {vs : List V} {ds : List PD} {i : Nat} {d : PD}, RpA K F vs ds → ds[i]? = some d → ∃ v, vs[i]? = some v ∧ Rp K F v d
  | _, _, _, _, .nil, e => by simp at e
  | _, _, 0, _, .cons h _, e => by
    simp at e; subst e
    exact ⟨_, rfl, h⟩
  | _, _, i + 1, d, .cons _ r, e => by
    obtain ⟨v, h1, h2⟩ := RpA.get (i := i) (d := d) r (by simpa using e)
    exact ⟨v, by simpa using h1, h2⟩
theorem RpA.getV {K : PySem.W.Frag} {F : Hp} : ∀ {vs : List V} {ds : List PD} {i : Nat} {v : V}, RpA K F vs ds → vs[i]? = some v → ∃ d, ds[i]? = some d ∧ Rp K F v d
  | _, _, _, _, .nil, e => by simp at e
  | _, _, 0, _, .cons h _, e => by
    simp at e; subst e
    exact ⟨_, rfl, h⟩
  | _, _, i + 1, d, .cons _ r, e => by
    obtain ⟨v, h1, h2⟩ := RpA.getV (i := i) (v := d) r (by simpa using e)
    exact ⟨v, by simpa using h1, h2⟩
theorem RpA.app {K : PySem.W.Frag} {F : Hp} : ∀ {vs ws : List V} {ds es : List PD}, RpA K F vs ds → RpA K F ws es → RpA K F (vs ++ ws) (ds ++ es)
  | _, _, _, _, .nil, s => s
  | _, _, _, _, .cons h r, s => .cons h (RpA.app r s)
theorem RpA.set {K : PySem.W.Frag} {F : Hp} {v : V} {d : PD} (h : Rp K F v d) : ∀ {vs : List V} {ds : List PD} (i : Nat), RpA K F vs ds → RpA K F (vs.set i v) (ds.set i d)
  | _, _, _, .nil => .nil
  | _, _, 0, .cons _ r => .cons h r
  | _, _, i + 1, .cons q r => .cons q (RpA.set h i r)
theorem RpA.take {K : PySem.W.Frag} {F : Hp} : ∀ {vs : List V} {ds : List PD} (n : Nat), RpA K F vs ds → RpA K F (vs.take n) (ds.take n)
  | _, _, 0, _ => .nil
  | _, _, _ + 1, .nil => .nil
  | _, _, n + 1, .cons h r => .cons h (RpA.take n r)
theorem RpA.drop {K : PySem.W.Frag} {F : Hp} : ∀ {vs : List V} {ds : List PD} (n : Nat), RpA K F vs ds → RpA K F (vs.drop n) (ds.drop n)
  | _, _, 0, h => h
  | _, _, _ + 1, .nil => .nil
  | _, _, n + 1, .cons _ r => RpA.drop n r
theorem RpA.rev {K : PySem.W.Frag} {F : Hp} : ∀ {vs : List V} {ds : List PD}, RpA K F vs ds → RpA K F vs.reverse ds.reverse
  | _, _, .nil => .nil
  | _, _, .cons h r => by
    rw [List.reverse_cons, List.reverse_cons]
    exact RpA.app (RpA.rev r) (.cons h .nil)
theorem RpA.ints {K : PySem.W.Frag} {F : Hp} : ∀ {ns : List Int} {vs : List V}, RpA K F vs (ns.map PyData.int) → vs = ns.map V.int
  | [], _, .nil => rfl
  | n :: ns, _, .cons h r => by
    cases h
    rw [RpA.ints r, List.map_cons]
theorem RpA.bools {K : PySem.W.Frag} {F : Hp} : ∀ {ns : List Bool} {vs : List V}, RpA K F vs (ns.map PyData.bool) → vs = ns.map V.bl
  | [], _, .nil => rfl
  | n :: ns, _, .cons h r => by
    cases h
    rw [RpA.bools r, List.map_cons]
theorem RpA.strs_ {K : PySem.W.Frag} {F : Hp} : ∀ {ns : List Str} {vs : List V}, RpA K F vs (ns.map PyData.str) → vs = ns.map V.str
  | [], _, .nil => rfl
  | n :: ns, _, .cons h r => by
    cases h
    rw [RpA.strs_ r, List.map_cons]
theorem RpA.ofInts {K : PySem.W.Frag} {F : Hp} : ∀ (ns : List Int), RpA K F (ns.map V.int) (ns.map PyData.int)
  | [] => .nil
  | n :: ns => .cons (.int n) (RpA.ofInts ns)
theorem RpA.ofStrs {K : PySem.W.Frag} {F : Hp} : ∀ (ns : List Str), RpA K F (ns.map V.str) (ns.map PyData.str)
  | [] => .nil
  | n :: ns => .cons (.str n) (RpA.ofStrs ns)
theorem RpA.rep {K : PySem.W.Frag} {F : Hp} {vs : List V} {ds : List PD} (h : RpA K F vs ds) : ∀ n : Nat, RpA K F (List.replicate n vs).flatten (List.replicate n ds).flatten
  | 0 => .nil
  | n + 1 => by
    rw [List.replicate_succ, List.replicate_succ, List.flatten_cons, List.flatten_cons]
    exact h.app (RpA.rep h n)

/-! ### slots -/
inductive SV where
  | un
  | val (d : PD)
  | own (ds : List PD)
  | bor (ds : List PD)
  | odk (es : List (PD × PD))
  | scr (ns : List Int)
abbrev En := List SV
def SV.isO : SV → Bool
  | .own _ => true
  | .bor _ => true
  | .odk _ => true
  | _ => false
structure Sx where
  F : Hp
  ρ : En
  σ : St
  H : Hp
def LOk (K : PySem.W.Frag) (F H : Hp) (o : Option V) (ds : List PD) : Prop := ∃ a vs, o = some (.ref a) ∧ F a = none ∧ H a = some (.lst vs) ∧ RpA K F vs ds
def KOk (K : PySem.W.Frag) (F H : Hp) (o : Option V) (es : List (PD × PD)) : Prop := ∃ a vs, o = some (.ref a) ∧ F a = none ∧ H a = some (.dK vs) ∧ RpK K F vs es
def SlotOk (K : PySem.W.Frag) (F H : Hp) : SV → Option V → Prop
  | .un, _ => True
  | .val d, o => ∃ v, o = some v ∧ Rp K F v d
  | .own ds, o => LOk K F H o ds
  | .bor ds, o => LOk K F H o ds
  | .odk es, o => KOk K F H o es
  | .scr ns, o => ∃ a, o = some (.ref a) ∧ SqL K F a (ns.map V.int)
def Ow (ρ : En) (σ : St) (a : Addr) : Prop := ∃ (i : Nat) (s : SV), ρ[i]? = some s ∧ s.isO = true ∧ σ[i]? = some (some (V.ref a))
abbrev Owns (S : Sx) (a : Addr) : Prop := Ow S.ρ S.σ a
structure Rel (K : PySem.W.Frag) (S : Sx) : Prop where
  len : S.ρ.length = S.σ.length
  fh : Same S.F S.H
  slot : ∀ (i : Nat) (s : SV) (o : Option V), S.ρ[i]? = some s → S.σ[i]? = some o → SlotOk K S.F S.H s o
  dist : ∀ (i j : Nat) (s t : SV) (a : Addr), S.ρ[i]? = some s → s.isO = true → S.ρ[j]? = some t → t.isO = true → S.σ[i]? = some (some (V.ref a)) → S.σ[j]? = some (some (V.ref a)) → i = j
structure Kp (S T : Sx) : Prop where
  ff : Same S.F T.F
  keep : ∀ b o, S.H b = some o → ¬ Owns S b → T.H b = some o
  there : ∀ b, S.H b ≠ none → T.H b ≠ none
  nof : ∀ b, S.H b ≠ none → S.F b = none → ¬ Owns S b → T.F b = none
  own : ∀ a, Owns T a → Owns S a ∨ S.H a = none
  bor : ∀ (i : Nat) ds, S.ρ[i]? = some (.bor ds) → (∃ ds', T.ρ[i]? = some (.bor ds')) ∧ T.σ[i]? = S.σ[i]?

theorem Kp.refl (S : Sx) : Kp S S := ⟨Same.refl _, fun _ _ h _ => h, fun _ h => h, fun _ _ h _ => h, fun _ h => .inl h, fun _ ds h => ⟨⟨ds, h⟩, rfl⟩⟩
theorem Kp.nown {S T : Sx} (k : Kp S T) {b : Addr} (h : S.H b ≠ none) (n : ¬ Owns S b) : ¬ Owns T b := fun q => (k.own b q).elim n h
theorem Kp.new {S T : Sx} (k : Kp S T) {b : Addr} (h : T.H b = none) : S.H b = none := by
  cases q : S.H b with
  | none => rfl
  | some o => exact absurd h (k.there b (by rw [q]; simp))
theorem Kp.trans {S T U : Sx} (a : Kp S T) (b : Kp T U) : Kp S U where
  ff := a.ff.trans b.ff
  keep := fun c o h n => b.keep c o (a.keep c o h n) (a.nown (by rw [h]; simp) n)
  there := fun c h => b.there c (a.there c h)
  nof := fun c h f n => b.nof c (a.there c h) (a.nof c h f n) (a.nown h n)
  own := fun c h => by
    rcases b.own c h with q | q
    · exact a.own c q
    · exact .inr (a.new q)
  bor := fun i ds h => by
    obtain ⟨⟨d1, e1⟩, s1⟩ := a.bor i ds h
    obtain ⟨⟨d2, e2⟩, s2⟩ := b.bor i d1 e1
    exact ⟨⟨d2, e2⟩, s2.trans s1⟩
theorem Rel.at {K : PySem.W.Frag} {S : Sx} (R : Rel K S) {i : Nat} {s : SV} (h : S.ρ[i]? = some s) : ∃ o, S.σ[i]? = some o ∧ SlotOk K S.F S.H s o := by
  have hi : i < S.σ.length := by
    rw [← R.len]
    exact (List.getElem?_eq_some_iff.mp h).1
  exact ⟨S.σ[i], List.getElem?_eq_getElem hi, R.slot i s _ h (List.getElem?_eq_getElem hi)⟩
theorem SlotOk.here {K : PySem.W.Frag} {F H : Hp} {s : SV} {o : Option V} (h : SlotOk K F H s o) (q : s.isO = true) : ∃ a, o = some (.ref a) ∧ F a = none ∧ H a ≠ none := by
  cases s with
  | un => cases q
  | val d => cases q
  | own ds => obtain ⟨a, vs, e, f, h, _⟩ := h; exact ⟨a, e, f, by rw [h]; simp⟩
  | bor ds => obtain ⟨a, vs, e, f, h, _⟩ := h; exact ⟨a, e, f, by rw [h]; simp⟩
  | odk ds => obtain ⟨a, vs, e, f, h, _⟩ := h; exact ⟨a, e, f, by rw [h]; simp⟩
  | scr ns => cases q
theorem Rel.owns {K : PySem.W.Frag} {S : Sx} (R : Rel K S) {a : Addr} (h : Owns S a) : S.F a = none ∧ S.H a ≠ none := by
  obtain ⟨i, s, e, q, z⟩ := h
  obtain ⟨b, e1, f, h⟩ := (R.slot i s _ e z).here q
  cases e1
  exact ⟨f, h⟩
/-- the frozen part and the heap have grown by new objects -/
structure Grow (F H F' H' : Hp) : Prop where
  ff : Same F F'
  hh : Same H H'
  fh : Same F' H'
  nof : ∀ b, H b ≠ none → F b = none → F' b = none
theorem Grow.refl {F H : Hp} (h : Same F H) : Grow F H F H := ⟨Same.refl _, Same.refl _, h, fun _ _ q => q⟩
theorem Grow.there {F H F' H' : Hp} (g : Grow F H F' H') {b : Addr} (h : H b ≠ none) : H' b ≠ none := by
  cases q : H b with
  | none => exact absurd q h
  | some o => rw [g.hh b o q]; simp
theorem Grow.trans {F H F1 H1 F2 H2 : Hp} (a : Grow F H F1 H1) (b : Grow F1 H1 F2 H2) : Grow F H F2 H2 :=
  ⟨a.ff.trans b.ff, a.hh.trans b.hh, b.fh, fun c h f => b.nof c (a.there h) (a.nof c h f)⟩
theorem SlotOk.grow {K : PySem.W.Frag} {F H F' H' : Hp} (g : Grow F H F' H') {s : SV} {o : Option V} (h : SlotOk K F H s o) : SlotOk K F' H' s o := by
  cases s with
  | un => trivial
  | val d => obtain ⟨v, e, r⟩ := h; exact ⟨v, e, r.mono g.ff⟩
  | own ds => obtain ⟨a, vs, e, f, h, r⟩ := h; exact ⟨a, vs, e, g.nof a (by rw [h]; simp) f, g.hh _ _ h, r.mono g.ff⟩
  | bor ds => obtain ⟨a, vs, e, f, h, r⟩ := h; exact ⟨a, vs, e, g.nof a (by rw [h]; simp) f, g.hh _ _ h, r.mono g.ff⟩
  | odk ds => obtain ⟨a, vs, e, f, h, r⟩ := h; exact ⟨a, vs, e, g.nof a (by rw [h]; simp) f, g.hh _ _ h, r.mono g.ff⟩
  | scr ns => obtain ⟨a, e, h⟩ := h; exact ⟨a, e, g.ff.seq h⟩
theorem Rel.grow {K : PySem.W.Frag} {S : Sx} (R : Rel K S) {F' H' : Hp} (g : Grow S.F S.H F' H') : Rel K ⟨F', S.ρ, S.σ, H'⟩ :=
  ⟨R.len, g.fh, fun i s o e1 e2 => (R.slot i s o e1 e2).grow g, R.dist⟩
theorem Kp.grow {S : Sx} {F' H' : Hp} (g : Grow S.F S.H F' H') : Kp S ⟨F', S.ρ, S.σ, H'⟩ :=
  ⟨g.ff, fun b o h _ => g.hh b o h, fun b h => g.there h, fun b h f _ => g.nof b h f, fun a h => .inl h, fun i ds h => ⟨⟨ds, h⟩, rfl⟩⟩
theorem grow_upd {F H : Hp} {p : Addr} {o : HO} (fh : Same F H) (n : H p = none) : Grow F H (upd F p o) (upd H p o) where
  ff := fun b x e => by rw [upd_ne (ne_of_none e (fh.free n))]; exact e
  hh := fun b x e => by rw [upd_ne (ne_of_none e n)]; exact e
  fh := fun b x e => by
    by_cases hb : b = p
    · subst hb; rw [upd_same] at e ⊢; exact e
    · rw [upd_ne hb] at e ⊢; exact fh b x e
  nof := fun b h f => by
    by_cases hb : b = p
    · subst hb; exact absurd n h
    · rw [upd_ne hb]; exact f
theorem grow_new {F H : Hp} {p : Addr} {o : HO} (fh : Same F H) (n : H p = none) : Grow F H F (upd H p o) where
  ff := Same.refl _
  hh := fun b x e => by rw [upd_ne (ne_of_none e n)]; exact e
  fh := fun b x e => by
    have e' := fh b x e
    rw [upd_ne (ne_of_none e' n)]; exact e'
  nof := fun b h f => f

/-! ### handles: how the value of an expression is held -/
inductive Hd where
  | dat (d : PD)
  | slot (i : Nat)
  | frL (ds : List PD)
  | frD (es : List (PD × PD))
def Hd.isFr : Hd → Bool
  | .frL _ => true
  | .frD _ => true
  | _ => false
/-- S: the state ahead, T: the state behind the expression -/
def HdOk (K : PySem.W.Frag) (S T : Sx) (v : V) : Hd → Prop
  | .dat d => Rp K T.F v d
  | .slot i => T.σ[i]? = some (some v)
  | .frL ds => ∃ a vs, v = .ref a ∧ S.H a = none ∧ T.F a = none ∧ T.H a = some (.lst vs) ∧ RpA K T.F vs ds ∧ ¬ Owns T a
  | .frD es => ∃ a vs, v = .ref a ∧ S.H a = none ∧ T.F a = none ∧ T.H a = some (.dK vs) ∧ RpK K T.F vs es ∧ ¬ Owns T a
theorem HdOk.step {K : PySem.W.Frag} {S T U : Sx} {v : V} {h : Hd} (k : Kp T U) (hs : U.σ = T.σ) (q : HdOk K S T v h) : HdOk K S U v h := by
  cases h with
  | dat d => exact Rp.mono k.ff q
  | slot i =>
    show U.σ[i]? = _
    rw [hs]; exact q
  | frL ds =>
    obtain ⟨a, vs, e, n, f, h, r, o⟩ := q
    have hn : T.H a ≠ none := by rw [h]; simp
    exact ⟨a, vs, e, n, k.nof a hn f o, k.keep a _ h o, r.mono k.ff, k.nown hn o⟩
  | frD ds =>
    obtain ⟨a, vs, e, n, f, h, r, o⟩ := q
    have hn : T.H a ≠ none := by rw [h]; simp
    exact ⟨a, vs, e, n, k.nof a hn f o, k.keep a _ h o, r.mono k.ff, k.nown hn o⟩
theorem HdOk.back {K : PySem.W.Frag} {S0 S T : Sx} {v : V} {h : Hd} (k : Kp S0 S) (q : HdOk K S T v h) : HdOk K S0 T v h := by
  cases h with
  | dat d => exact q
  | slot i => exact q
  | frL ds => obtain ⟨a, vs, e, n, r⟩ := q; exact ⟨a, vs, e, k.new n, r⟩
  | frD ds => obtain ⟨a, vs, e, n, r⟩ := q; exact ⟨a, vs, e, k.new n, r⟩
/-- the datum behind a handle -/
def res (ρ : En) : Hd → Option PD
  | .dat d => some d
  | .slot i => match ρ[i]? with
    | some (.val d) => some d
    | some (.own ds) => some (.list ds)
    | some (.bor ds) => some (.list ds)
    | some (.odk es) => some (.dict es)
    | _ => none
  | .frL ds => some (.list ds)
  | .frD es => some (.dict es)
/-- a value that may be read: its outermost list or dict stands in H, what is within stands in F -/
def Rt (K : PySem.W.Frag) (F H : Hp) (v : V) : PD → Prop
  | .list ds => ∃ a vs, v = .ref a ∧ H a = some (.lst vs) ∧ RpA K F vs ds
  | .dict es => ∃ a vs, v = .ref a ∧ H a = some (.dK vs) ∧ RpK K F vs es
  | d => Rp K F v d
theorem Rp.rt {K : PySem.W.Frag} {F H : Hp} (e : Same F H) {v : V} {d : PD} (h : Rp K F v d) : Rt K F H v d := by
  cases h with
  | lst h r => exact ⟨_, _, rfl, e _ _ h, r⟩
  | dct h r => exact ⟨_, _, rfl, e _ _ h, r⟩
  | non => exact .non
  | bl b => exact .bl b
  | int b => exact .int b
  | str b => exact .str b
  | tup h r => exact .tup h r
/-- read: all in H -/
theorem Rt.rp {K : PySem.W.Frag} {F H : Hp} (e : Same F H) {v : V} {d : PD} (h : Rt K F H v d) : Rp K H v d := by
  cases d with
  | list ds => obtain ⟨a, vs, rfl, h, r⟩ := h; exact .lst h (r.mono e)
  | dict ds => obtain ⟨a, vs, rfl, h, r⟩ := h; exact .dct h (r.mono e)
  | none => exact Rp.mono e h
  | bool b => exact Rp.mono e h
  | int b => exact Rp.mono e h
  | str b => exact Rp.mono e h
  | tuple b => exact Rp.mono e h
theorem HdOk.rt {K : PySem.W.Frag} {S T : Sx} {v : V} {h : Hd} {d : PD} (R : Rel K T) (q : HdOk K S T v h) (e : res T.ρ h = some d) : Rt K T.F T.H v d := by
  cases h with
  | dat d' =>
    cases e
    exact Rp.rt R.fh q
  | slot i =>
    cases hs : T.ρ[i]? with
    | none => simp only [res, hs] at e; cases e
    | some s =>
      have so := R.slot i s _ hs q
      cases s with
      | un => simp only [res, hs] at e; cases e
      | val d' =>
        simp only [res, hs] at e; cases e
        obtain ⟨v', e1, r⟩ := so
        cases e1
        exact r.rt R.fh
      | own ds =>
        simp only [res, hs] at e; cases e
        obtain ⟨a, vs, e1, f, h, r⟩ := so
        cases e1
        exact ⟨a, vs, rfl, h, r⟩
      | bor ds =>
        simp only [res, hs] at e; cases e
        obtain ⟨a, vs, e1, f, h, r⟩ := so
        cases e1
        exact ⟨a, vs, rfl, h, r⟩
      | odk ds =>
        simp only [res, hs] at e; cases e
        obtain ⟨a, vs, e1, f, h, r⟩ := so
        cases e1
        exact ⟨a, vs, rfl, h, r⟩
      | scr ns => simp only [res, hs] at e; cases e
  | frL ds =>
    cases e
    obtain ⟨a, vs, e, n, f, h, r, o⟩ := q
    exact ⟨a, vs, e, h, r⟩
  | frD ds =>
    cases e
    obtain ⟨a, vs, e, n, f, h, r, o⟩ := q
    exact ⟨a, vs, e, h, r⟩
/-- a handle frozen -/
def frz (h : Hd) (ρ : En) : Option (PD × En) := match h with
  | .dat d => some (d, ρ)
  | .slot i => match ρ[i]? with
    | some (.val d) => some (d, ρ)
    | some (.own ds) => some (.list ds, ρ.set i (.val (.list ds)))
    | some (.odk es) => some (.dict es, ρ.set i (.val (.dict es)))
    | _ => none
  | .frL ds => some (.list ds, ρ)
  | .frD es => some (.dict es, ρ)
/-- freezing an object that is no slot's -/
theorem frz_new {K : PySem.W.Frag} {S0 S : Sx} {a : Addr} {o : HO} (R : Rel K S) (k : Kp S0 S) (n : S0.H a = none) (f : S.F a = none) (h : S.H a = some o) (no : ¬ Owns S a) :
    Rel K ⟨upd S.F a o, S.ρ, S.σ, S.H⟩ ∧ Kp S0 ⟨upd S.F a o, S.ρ, S.σ, S.H⟩ := by
  have sm : Same S.F (upd S.F a o) := fun b x e => by rw [upd_ne (ne_of_none e f)]; exact e
  refine ⟨⟨R.len, fun b x e => ?_, fun i s v e1 e2 => ?_, R.dist⟩, ⟨k.ff.trans sm, k.keep, k.there, fun b hb fb nb => ?_, k.own, k.bor⟩⟩
  · have e' : upd S.F a o b = some x := e
    by_cases hb : b = a
    · subst hb; rw [upd_same] at e'; cases e'; exact h
    · rw [upd_ne hb] at e'; exact R.fh b x e'
  · have so := R.slot i s v e1 e2
    have na : ∀ b, s.isO = true → v = some (.ref b) → b ≠ a := fun b q z e => no ⟨i, s, e1, q, by rw [e2, z, e]⟩
    cases s with
    | un => trivial
    | val d => obtain ⟨v, e, r⟩ := so; exact ⟨v, e, r.mono sm⟩
    | own ds => obtain ⟨b, vs, e, g, h, r⟩ := so; exact ⟨b, vs, e, (upd_ne (na b rfl e)).trans g, h, r.mono sm⟩
    | bor ds => obtain ⟨b, vs, e, g, h, r⟩ := so; exact ⟨b, vs, e, (upd_ne (na b rfl e)).trans g, h, r.mono sm⟩
    | odk ds => obtain ⟨b, vs, e, g, h, r⟩ := so; exact ⟨b, vs, e, (upd_ne (na b rfl e)).trans g, h, r.mono sm⟩
    | scr ns => obtain ⟨b, e, h⟩ := so; exact ⟨b, e, sm.seq h⟩
  · have : b ≠ a := fun e => hb (e ▸ n)
    show upd S.F a o b = none
    rw [upd_ne this]
    exact k.nof b hb fb nb
theorem owns_set {S : Sx} {i : Nat} {s : SV} {b : Addr} (ns : s.isO = false) (h : Ow (S.ρ.set i s) S.σ b) : Owns S b := by
  obtain ⟨j, t, e, q, z⟩ := h
  have e' : (S.ρ.set i s)[j]? = some t := e
  by_cases hij : i = j
  · subst hij
    by_cases hl : i < S.ρ.length
    · rw [List.getElem?_set_self hl] at e'
      cases e'
      rw [ns] at q; cases q
    · rw [List.getElem?_eq_none (by simpa using hl)] at e'; cases e'
  · rw [List.getElem?_set_ne hij] at e'
    exact ⟨j, t, e', q, z⟩
/-- freezing a slot's own object -/
theorem frz_slot {K : PySem.W.Frag} {S0 S : Sx} {i : Nat} {s : SV} {a : Addr} {o : HO} {d : PD} (R : Rel K S) (k : Kp S0 S) (hs : S.ρ[i]? = some s) (hO : s.isO = true) (hB : ∀ ds, s ≠ .bor ds) (hv : S.σ[i]? = some (some (.ref a)))
    (f : S.F a = none) (h : S.H a = some o) (rp : Rp K (upd S.F a o) (.ref a) d) :
    Rel K ⟨upd S.F a o, S.ρ.set i (.val d), S.σ, S.H⟩ ∧ Kp S0 ⟨upd S.F a o, S.ρ.set i (.val d), S.σ, S.H⟩ := by
  have sm : Same S.F (upd S.F a o) := fun b x e => by rw [upd_ne (ne_of_none e f)]; exact e
  have hi : i < S.ρ.length := (List.getElem?_eq_some_iff.mp hs).1
  refine ⟨⟨by show (S.ρ.set i _).length = _; rw [List.length_set]; exact R.len, fun b x e => ?_, fun j t v e1 e2 => ?_, fun j l t u b e1 q1 e2 q2 z1 z2 => ?_⟩, ⟨k.ff.trans sm, k.keep, k.there, fun b hb fb nb => ?_, fun b hb => k.own b (owns_set rfl hb), fun j ds e => ?_⟩⟩
  · have e' : upd S.F a o b = some x := e
    by_cases hb : b = a
    · subst hb; rw [upd_same] at e'; cases e'; exact h
    · rw [upd_ne hb] at e'; exact R.fh b x e'
  · have e1' : (S.ρ.set i (.val d))[j]? = some t := e1
    by_cases hij : i = j
    · subst hij
      rw [List.getElem?_set_self hi] at e1'
      cases e1'
      have e2' : S.σ[i]? = some v := e2
      rw [hv] at e2'; cases e2'
      exact ⟨_, rfl, rp⟩
    · rw [List.getElem?_set_ne hij] at e1'
      have so := R.slot j t v e1' e2
      have na : ∀ b, t.isO = true → v = some (.ref b) → b ≠ a := fun b q z e => hij (R.dist i j s t a hs hO e1' q hv (by have e2' : S.σ[j]? = some v := e2; rw [e2', z, e]))
      cases t with
      | un => trivial
      | val d => obtain ⟨v, e, r⟩ := so; exact ⟨v, e, r.mono sm⟩
      | own ds => obtain ⟨b, vs, e, g, h, r⟩ := so; exact ⟨b, vs, e, (upd_ne (na b rfl e)).trans g, h, r.mono sm⟩
      | bor ds => obtain ⟨b, vs, e, g, h, r⟩ := so; exact ⟨b, vs, e, (upd_ne (na b rfl e)).trans g, h, r.mono sm⟩
      | odk ds => obtain ⟨b, vs, e, g, h, r⟩ := so; exact ⟨b, vs, e, (upd_ne (na b rfl e)).trans g, h, r.mono sm⟩
      | scr ns => obtain ⟨b, e, h⟩ := so; exact ⟨b, e, sm.seq h⟩
  · have un : ∀ (j : Nat) t, (S.ρ.set i (.val d))[j]? = some t → t.isO = true → S.ρ[j]? = some t := fun j t e q => by
      by_cases hij : i = j
      · subst hij
        rw [List.getElem?_set_self hi] at e
        cases e; cases q
      · rwa [List.getElem?_set_ne hij] at e
    exact R.dist j l t u b (un j t e1 q1) q1 (un l u e2 q2) q2 z1 z2
  · have hb' : b ≠ a := fun e => by
      subst e
      rcases k.own b ⟨i, s, hs, hO, hv⟩ with q | q
      · exact nb q
      · exact hb q
    show upd S.F a o b = none
    rw [upd_ne hb']
    exact k.nof b hb fb nb
  · obtain ⟨⟨d', e'⟩, z⟩ := k.bor j ds e
    refine ⟨⟨d', ?_⟩, z⟩
    show (S.ρ.set i _)[j]? = _
    rw [List.getElem?_set_ne]
    · exact e'
    · rintro rfl
      rw [hs] at e'; cases e'
      exact hB _ rfl
theorem frz_ok {K : PySem.W.Frag} {S0 S : Sx} {v : V} {h : Hd} {d : PD} {ρ' : En} (R : Rel K S) (k : Kp S0 S) (q : HdOk K S0 S v h) (e : frz h S.ρ = some (d, ρ')) :
    ∃ F', Rel K ⟨F', ρ', S.σ, S.H⟩ ∧ Kp S0 ⟨F', ρ', S.σ, S.H⟩ ∧ Rp K F' v d ∧ Same S.F F' ∧ (∀ b, F' b ≠ S.F b → v = .ref b ∧ (h.isFr = true ∨ Owns S b)) ∧ (∀ b, Ow ρ' S.σ b → Owns S b) := by
  have nd : ∀ {a : Addr} {o : HO} {b : Addr}, upd S.F a o b ≠ S.F b → b = a := fun {a o b} h => by
    by_cases e : b = a
    · exact e
    · exact absurd (upd_ne e) h
  cases h with
  | dat d' =>
    cases e
    exact ⟨S.F, R, k, q, Same.refl _, fun b h => absurd rfl h, fun b h => h⟩
  | frL ds =>
    cases e
    obtain ⟨a, vs, rfl, n, f, h, r, o⟩ := q
    have sm : Same S.F (upd S.F a (.lst vs)) := fun b x e => by rw [upd_ne (ne_of_none e f)]; exact e
    obtain ⟨R', k'⟩ := frz_new R k n f h o
    exact ⟨_, R', k', .lst upd_same (r.mono sm), sm, fun b h => ⟨by rw [nd h], .inl rfl⟩, fun b h => h⟩
  | frD ds =>
    cases e
    obtain ⟨a, vs, rfl, n, f, h, r, o⟩ := q
    have sm : Same S.F (upd S.F a (.dK vs)) := fun b x e => by rw [upd_ne (ne_of_none e f)]; exact e
    obtain ⟨R', k'⟩ := frz_new R k n f h o
    exact ⟨_, R', k', .dct upd_same (r.mono sm), sm, fun b h => ⟨by rw [nd h], .inl rfl⟩, fun b h => h⟩
  | slot i =>
    cases hs : S.ρ[i]? with
    | none => simp only [frz, hs] at e; cases e
    | some s =>
      have so := R.slot i s _ hs q
      cases s with
      | un => simp only [frz, hs] at e; cases e
      | bor d' => simp only [frz, hs] at e; cases e
      | scr d' => simp only [frz, hs] at e; cases e
      | val d' =>
        simp only [frz, hs] at e; cases e
        obtain ⟨v', e1, r⟩ := so
        cases e1
        exact ⟨S.F, R, k, r, Same.refl _, fun b h => absurd rfl h, fun b h => h⟩
      | own ds =>
        simp only [frz, hs] at e; cases e
        obtain ⟨a, vs, e1, f, h, r⟩ := so
        cases e1
        have sm : Same S.F (upd S.F a (.lst vs)) := fun b x e => by rw [upd_ne (ne_of_none e f)]; exact e
        have rp : Rp K (upd S.F a (.lst vs)) (.ref a) (.list ds) := .lst upd_same (r.mono sm)
        obtain ⟨R', k'⟩ := frz_slot R k hs rfl (fun _ z => by cases z) q f h rp
        exact ⟨_, R', k', rp, sm, fun b h => by rw [nd h]; exact ⟨rfl, .inr ⟨i, _, hs, rfl, q⟩⟩, fun b h => owns_set rfl h⟩
      | odk ds =>
        simp only [frz, hs] at e; cases e
        obtain ⟨a, vs, e1, f, h, r⟩ := so
        cases e1
        have sm : Same S.F (upd S.F a (.dK vs)) := fun b x e => by rw [upd_ne (ne_of_none e f)]; exact e
        have rp : Rp K (upd S.F a (.dK vs)) (.ref a) (.dict ds) := .dct upd_same (r.mono sm)
        obtain ⟨R', k'⟩ := frz_slot R k hs rfl (fun _ z => by cases z) q f h rp
        exact ⟨_, R', k', rp, sm, fun b h => by rw [nd h]; exact ⟨rfl, .inr ⟨i, _, hs, rfl, q⟩⟩, fun b h => owns_set rfl h⟩
/-- another handle stays while one is frozen -/
theorem frz_keep {K : PySem.W.Frag} {S0 S : Sx} {v v' : V} {h h' : Hd} {F' : Hp} {ρ' : En} (q : HdOk K S0 S v' h') (sm : Same S.F F') (nd : ∀ b, F' b ≠ S.F b → v = .ref b ∧ (h.isFr = true ∨ Owns S b)) (no : ∀ b, Ow ρ' S.σ b → Owns S b)
    (ne : h.isFr = true → h'.isFr = true → v' ≠ v) : HdOk K S0 ⟨F', ρ', S.σ, S.H⟩ v' h' := by
  have key : ∀ a, v' = .ref a → h'.isFr = true → ¬ Owns S a → S.F a = none → F' a = none := fun a e hf o f => by
    by_cases z : F' a = S.F a
    · rw [z]; exact f
    · obtain ⟨e1, e2⟩ := nd a z
      rcases e2 with e2 | e2
      · exact absurd (e.trans e1.symm) (ne e2 hf)
      · exact absurd e2 o
  cases h' with
  | dat d => exact Rp.mono sm q
  | slot i => exact q
  | frL ds =>
    obtain ⟨a, vs, e, n, f, h, r, o⟩ := q
    exact ⟨a, vs, e, n, key a e rfl o f, h, r.mono sm, fun z => o (no a z)⟩
  | frD ds =>
    obtain ⟨a, vs, e, n, f, h, r, o⟩ := q
    exact ⟨a, vs, e, n, key a e rfl o f, h, r.mono sm, fun z => o (no a z)⟩
end DL
set_option Elab.async false
set_option linter.all false
set_option maxRecDepth 100000
/-! DL: the judgements; names, constants, operators, calls, small statements. -/
namespace DL
open PySem PySem.Spec PyProof.Rows L2

abbrev M (α : Type) := En → Option (α × En)
def pur {α : Type} (a : α) : M α := fun ρ => some (a, ρ)
def bnd {α β : Type} (m : M α) (k : α → M β) : M β := fun ρ => match m ρ with
  | some (a, ρ') => k a ρ'
  | none => none
theorem bnd_of {α β : Type} {m : M α} {k : α → M β} {ρ ρ' : En} {a : α} (h : m ρ = some (a, ρ')) : bnd m k ρ = k a ρ' := by simp only [bnd, h]
theorem bnd_some {α β : Type} {m : M α} {k : α → M β} {ρ ρ' : En} {b : β} (h : bnd m k ρ = some (b, ρ')) : ∃ a ρ1, m ρ = some (a, ρ1) ∧ k a ρ1 = some (b, ρ') := by
  cases e : m ρ with
  | none => simp only [bnd, e] at h; cases h
  | some p =>
    obtain ⟨a, ρ1⟩ := p
    simp only [bnd, e] at h
    exact ⟨a, ρ1, rfl, h⟩
theorem pur_some {α : Type} {a b : α} {ρ ρ' : En} (h : pur a ρ = some (b, ρ')) : b = a ∧ ρ' = ρ := by cases h; exact ⟨rfl, rfl⟩

/-- new objects stand apart -/
def Apart (v : V) (h : Hd) (vs : List V) (hs : List Hd) : Prop := h.isFr = true → ∀ (i : Nat) (v' : V) (h' : Hd), vs[i]? = some v' → hs[i]? = some h' → h'.isFr = true → v' ≠ v
inductive HdsOk (K : PySem.W.Frag) (S T : Sx) : List V → List Hd → Prop
  | nil : HdsOk K S T [] []
  | cons {v : V} {vs : List V} {h : Hd} {hs : List Hd} : HdOk K S T v h → Apart v h vs hs → HdsOk K S T vs hs → HdsOk K S T (v :: vs) (h :: hs)
theorem HdsOk.get {K : PySem.W.Frag} {S T : Sx} : ∀ {vs : List V} {hs : List Hd} {i : Nat} {v : V} {h : Hd}, HdsOk K S T vs hs → vs[i]? = some v → hs[i]? = some h → HdOk K S T v h
  | _, _, _, _, _, .nil, e, _ => by simp at e
  | _, _, 0, _, _, .cons q _ _, e, e' => by
    simp at e e'; subst e; subst e'
    exact q
  | _, _, i + 1, _, _, .cons _ _ r, e, e' => HdsOk.get (i := i) r (by simpa using e) (by simpa using e')
/-- what is new behind T stands apart from what stood there -/
theorem apart_of {K : PySem.W.Frag} {S T U : Sx} {v : V} {h : Hd} {vs : List V} {hs : List Hd} (q : HdOk K S T v h) (r : HdsOk K T U vs hs) : Apart v h vs hs := fun hf i v' h' e e' hf' z => by
  have q' := r.get e e'
  have st : ∃ a, v = .ref a ∧ T.H a ≠ none := by
    cases h with
    | dat d => cases hf
    | slot d => cases hf
    | frL ds => obtain ⟨a, vs, e, n, f, h, _⟩ := q; exact ⟨a, e, by rw [h]; simp⟩
    | frD ds => obtain ⟨a, vs, e, n, f, h, _⟩ := q; exact ⟨a, e, by rw [h]; simp⟩
  have st' : ∃ a, v' = .ref a ∧ T.H a = none := by
    cases h' with
    | dat d => cases hf'
    | slot d => cases hf'
    | frL ds => obtain ⟨a, vs, e, n, _⟩ := q'; exact ⟨a, e, n⟩
    | frD ds => obtain ⟨a, vs, e, n, _⟩ := q'; exact ⟨a, e, n⟩
  obtain ⟨a, e1, h1⟩ := st
  obtain ⟨b, e2, h2⟩ := st'
  rw [e1, e2] at z
  cases z
  exact h1 h2
theorem HdsOk.back {K : PySem.W.Frag} {S0 S T : Sx} (k : Kp S0 S) : ∀ {vs : List V} {hs : List Hd}, HdsOk K S T vs hs → HdsOk K S0 T vs hs
  | _, _, .nil => .nil
  | _, _, .cons h a r => .cons (h.back k) a (HdsOk.back k r)
theorem HdsOk.step {K : PySem.W.Frag} {S T U : Sx} (k : Kp T U) (hs : U.σ = T.σ) : ∀ {vs : List V} {hs : List Hd}, HdsOk K S T vs hs → HdsOk K S U vs hs
  | _, _, .nil => .nil
  | _, _, .cons h a r => .cons (h.step k hs) a (HdsOk.step k hs r)

/-! ### readings by data -/
def tDE (K : PySem.W.Frag) (f : M Hd) : TE := fun σ H Q => ∃ (S : Sx) (h : Hd) (ρ' : En), S.σ = σ ∧ S.H = H ∧ Rel K S ∧ f S.ρ = some (h, ρ') ∧
  ∀ v (T : Sx), T.σ = σ → T.ρ = ρ' → Rel K T → Kp S T → HdOk K S T v h → Q v T.H
def tDA (K : PySem.W.Frag) (f : M (List Hd)) : TA := fun σ H Q => ∃ (S : Sx) (h : List Hd) (ρ' : En), S.σ = σ ∧ S.H = H ∧ Rel K S ∧ f S.ρ = some (h, ρ') ∧
  ∀ v (T : Sx), T.σ = σ → T.ρ = ρ' → Rel K T → Kp S T → HdsOk K S T v h → Q v T.H
def tDT (K : PySem.W.Frag) (f : M Bool) : TT := fun σ H Q => ∃ (S : Sx) (b : Bool) (ρ' : En), S.σ = σ ∧ S.H = H ∧ Rel K S ∧ f S.ρ = some (b, ρ') ∧
  ∀ (T : Sx), T.σ = σ → T.ρ = ρ' → Rel K T → Kp S T → Q b T.H
inductive Out where
  | nx | bk | ct
  | rt (h : Hd)
/-- a value handed back: new, or a slot's own -/
def RtOk (K : PySem.W.Frag) (S T : Sx) (v : V) : Hd → Prop
  | .dat d => Rp K T.F v d
  | .slot _ => False
  | .frL ds => ∃ a vs, v = .ref a ∧ (Owns S a ∨ S.H a = none) ∧ T.F a = none ∧ T.H a = some (.lst vs) ∧ RpA K T.F vs ds ∧ ¬ Owns T a
  | .frD es => ∃ a vs, v = .ref a ∧ (Owns S a ∨ S.H a = none) ∧ T.F a = none ∧ T.H a = some (.dK vs) ∧ RpK K T.F vs es ∧ ¬ Owns T a
def Lands (K : PySem.W.Frag) (D : Ends) (S : Sx) (ρ' : En) : Out → Prop
  | .nx => ∀ T : Sx, T.ρ = ρ' → Rel K T → Kp S T → D.nx T.σ T.H
  | .bk => ∀ T : Sx, T.ρ = ρ' → Rel K T → Kp S T → D.bk T.σ T.H
  | .ct => ∀ T : Sx, T.ρ = ρ' → Rel K T → Kp S T → D.ct T.σ T.H
  | .rt h => ∀ v (T : Sx), T.ρ = ρ' → Rel K T → Kp S T → RtOk K S T v h → D.rt v T.H
def tDS (K : PySem.W.Frag) (f : M Out) : TS := fun D σ H => ∃ (S : Sx) (o : Out) (ρ' : En), S.σ = σ ∧ S.H = H ∧ Rel K S ∧ f S.ρ = some (o, ρ') ∧ Lands K D S ρ' o
theorem Kp.ownOr {S T : Sx} (k : Kp S T) {a : Addr} (h : Owns T a ∨ T.H a = none) : Owns S a ∨ S.H a = none := h.elim (k.own a) fun q => .inr (k.new q)
theorem RtOk.back {K : PySem.W.Frag} {S0 S T : Sx} {v : V} {h : Hd} (k : Kp S0 S) (q : RtOk K S T v h) : RtOk K S0 T v h := by
  cases h with
  | dat d => exact q
  | slot i => exact q
  | frL ds => obtain ⟨a, vs, e, n, r⟩ := q; exact ⟨a, vs, e, k.ownOr n, r⟩
  | frD ds => obtain ⟨a, vs, e, n, r⟩ := q; exact ⟨a, vs, e, k.ownOr n, r⟩

section
variable {X : Cx} {e a b c : Expr} {es : List Expr} {pos : Pos}
theorem pe_weak {t t' : TE} (h : PE X e t) (w : ∀ σ H Q, t' σ H Q → t σ H Q) : PE X e t' := ⟨fun pins s σ H Q I q => h.run pins s σ H Q I (w σ H Q q)⟩
theorem pa_weak {t t' : TA} (h : PA X es t) (w : ∀ σ H Q, t' σ H Q → t σ H Q) : PA X es t' := ⟨fun pos pins s σ H Q I q => h.run pos pins s σ H Q I (w σ H Q q)⟩
theorem pt_weak {t t' : TT} (h : PT X e t) (w : ∀ σ H Q, t' σ H Q → t σ H Q) : PT X e t' := ⟨fun pins s σ H Q I q => h.run pins s σ H Q I (w σ H Q q)⟩
theorem pw_weak {t t' : TT} (h : PW X e t) (w : ∀ σ H Q, t' σ H Q → t σ H Q) : PW X e t' := ⟨fun wh pins s σ H Q I q => h.run wh pins s σ H Q I (w σ H Q q)⟩
theorem ps_weak {st : Stmt} {t t' : TS} (h : PS X st t) (w : ∀ D σ H, t' D σ H → t D σ H) : PS X st t' := ⟨fun pins s σ H D I q => h.run pins s σ H D I (w D σ H q)⟩
theorem pss_weak {st : List Stmt} {t t' : TS} (h : PSs X st t) (w : ∀ D σ H, t' D σ H → t D σ H) : PSs X st t' := ⟨fun pins s σ H D I q => h.run pins s σ H D I (w D σ H q)⟩

/-! ### names and constants -/
def eVar (i : Nat) : M Hd := fun ρ => match ρ[i]? with
  | some (.val d) => some (.dat d, ρ)
  | some (.own _) => some (.slot i, ρ)
  | some (.bor _) => some (.slot i, ρ)
  | some (.odk _) => some (.slot i, ρ)
  | _ => none
theorem d_var {i : Nat} {x : Str} (h : PE X (.Name x pos) (tVar i)) : PE X (.Name x pos) (tDE X.K (eVar i)) := by
  refine pe_weak h fun σ H Q ⟨S, h, ρ', e1, e2, R, e, q⟩ => ?_
  subst e1; subst e2
  cases hs : S.ρ[i]? with
  | none => simp only [eVar, hs] at e; cases e
  | some s =>
    obtain ⟨o, ho, so⟩ := R.at hs
    cases s with
    | un => simp only [eVar, hs] at e; cases e
    | scr ns => simp only [eVar, hs] at e; cases e
    | val d =>
      simp only [eVar, hs] at e; cases e
      obtain ⟨v, rfl, r⟩ := so
      exact ⟨v, ho, q v S rfl rfl R (Kp.refl S) r⟩
    | own ds =>
      simp only [eVar, hs] at e; cases e
      obtain ⟨a, vs, rfl, r⟩ := so
      exact ⟨_, ho, q _ S rfl rfl R (Kp.refl S) ho⟩
    | bor ds =>
      simp only [eVar, hs] at e; cases e
      obtain ⟨a, vs, rfl, r⟩ := so
      exact ⟨_, ho, q _ S rfl rfl R (Kp.refl S) ho⟩
    | odk ds =>
      simp only [eVar, hs] at e; cases e
      obtain ⟨a, vs, rfl, r⟩ := so
      exact ⟨_, ho, q _ S rfl rfl R (Kp.refl S) ho⟩
def eC (d : PD) : M Hd := pur (.dat d)
theorem d_const {v : V} {d : PD} (h : PE X e (tC v)) (hd : ∀ F, Rp X.K F v d) : PE X e (tDE X.K (eC d)) := by
  refine pe_weak h fun σ H Q ⟨S, h, ρ', e1, e2, R, e, q⟩ => ?_
  subst e1; subst e2
  obtain ⟨rfl, rfl⟩ := pur_some e
  exact q v S rfl rfl R (Kp.refl S) (hd _)
theorem d_int {i j} : PE X (.Constant (.int i) j pos) (tDE X.K (eC (.int i))) := d_const pe_int fun _ => .int i
theorem d_bl {b j} : PE X (.Constant (.bool b) j pos) (tDE X.K (eC (.bool b))) := d_const pe_bl fun _ => .bl b
theorem d_non {j} : PE X (.Constant .none j pos) (tDE X.K (eC .none)) := d_const pe_non fun _ => .non
theorem d_str {x j} : PE X (.Constant (.str x) j pos) (tDE X.K (eC (.str x))) := d_const pe_str fun _ => .str x
/-- a module's int -/
theorem d_gint {x : Str} {i : Int} {t : Tok} (hg : Gl X x) (hm : X.mg x = some (.int i t)) (hd : (x == ("__debug__" : Str)) = false := by decide) : PE X (.Name x pos) (tDE X.K (eC (.int i))) :=
  d_const (pe_glob (v := .int i) hg hm ⟨t, rfl⟩ hd) fun _ => .int i
theorem d_gstr {x y : Str} {t : Tok} (hg : Gl X x) (hm : X.mg x = some (.str y t)) (hd : (x == ("__debug__" : Str)) = false := by decide) : PE X (.Name x pos) (tDE X.K (eC (.str y))) :=
  d_const (pe_glob (v := .str y) hg hm ⟨t, rfl⟩ hd) fun _ => .str y

/-! ### argument lists -/
def eNil : M (List Hd) := pur []
def eCons (fa : M Hd) (fr : M (List Hd)) : M (List Hd) := bnd fa fun h => bnd fr fun hs => pur (h :: hs)
theorem d_nil : PA X [] (tDA X.K eNil) := by
  refine pa_weak pa_nil fun σ H Q ⟨S, h, ρ', e1, e2, R, e, q⟩ => ?_
  subst e1; subst e2
  obtain ⟨rfl, rfl⟩ := pur_some e
  exact q [] S rfl rfl R (Kp.refl S) .nil
theorem cons_red {K : PySem.W.Frag} {fa : M Hd} {fr : M (List Hd)} {σ : St} {H : Hp} {Q : List V → Hp → Prop} (h : tDA K (eCons fa fr) σ H Q) : tDE K fa σ H fun x H1 => tDA K fr σ H1 fun xs H2 => Q (x :: xs) H2 := by
  obtain ⟨S, h, ρ', e1, e2, R, e, q⟩ := h
  subst e1; subst e2
  obtain ⟨ha, ρ1, ea, e⟩ := bnd_some e
  obtain ⟨hr, ρ2, er, e⟩ := bnd_some e
  obtain ⟨rfl, rfl⟩ := pur_some e
  refine ⟨S, ha, ρ1, rfl, rfl, R, ea, fun v T hs hr' RT kT hT => ⟨T, hr, ρ', hs, rfl, RT, by rw [hr']; exact er, fun vs U hs2 hr2 RU kU hU => ?_⟩⟩
  exact q (v :: vs) U (hs2) hr2 RU (kT.trans kU) (.cons (hT.step kU (hs2.trans hs.symm)) (apart_of hT hU) (hU.back kT))
theorem d_cons {fa : M Hd} {fr : M (List Hd)} (ha : PE X e (tDE X.K fa)) (hr : PA X es (tDA X.K fr)) (hs : starEach (e :: es) X.env = (false, eval e X.env) :: starEach es X.env := by rfl) : PA X (e :: es) (tDA X.K (eCons fa fr)) :=
  pa_weak (pa_cons ha hr hs) fun _ _ _ h => cons_red h

/-! ### operations on read data -/
def resA (ρ : En) : List Hd → Option (List PD)
  | [] => some []
  | h :: hs => match res ρ h, resA ρ hs with
    | some d, some ds => some (d :: ds)
    | _, _ => none
inductive RtA (K : PySem.W.Frag) (F H : Hp) : List V → List PD → Prop
  | nil : RtA K F H [] []
  | cons {v : V} {vs : List V} {d : PD} {ds : List PD} : Rt K F H v d → RtA K F H vs ds → RtA K F H (v :: vs) (d :: ds)
theorem resA_cons {ρ : En} {h : Hd} {hs : List Hd} {ds : List PD} (e : resA ρ (h :: hs) = some ds) : ∃ d r, res ρ h = some d ∧ resA ρ hs = some r ∧ ds = d :: r := by
  cases e1 : res ρ h with
  | none => simp only [resA, e1] at e; cases e
  | some d =>
    cases e2 : resA ρ hs with
    | none => simp only [resA, e1, e2] at e; cases e
    | some r => simp only [resA, e1, e2] at e; cases e; exact ⟨d, r, rfl, rfl, rfl⟩
theorem HdsOk.rt {K : PySem.W.Frag} {S T : Sx} (R : Rel K T) : ∀ {vs : List V} {hs : List Hd} {ds : List PD}, HdsOk K S T vs hs → resA T.ρ hs = some ds → RtA K T.F T.H vs ds
  | _, _, _, .nil, e => by cases e; exact .nil
  | _, _, _, .cons h _ r, e => by
    obtain ⟨d, ds, e1, e2, rfl⟩ := resA_cons e
    exact .cons (h.rt R e1) (HdsOk.rt R r e2)
/-- what an operation gives: a datum, or a new list or dict -/
def GvOk (K : PySem.W.Frag) (F' H H' : Hp) (v : V) : Hd → Prop
  | .dat d => Rp K F' v d
  | .slot _ => False
  | .frL ds => ∃ a vs, v = .ref a ∧ H a = none ∧ F' a = none ∧ H' a = some (.lst vs) ∧ RpA K F' vs ds
  | .frD es => ∃ a vs, v = .ref a ∧ H a = none ∧ F' a = none ∧ H' a = some (.dK vs) ∧ RpK K F' vs es
theorem GvOk.hd {K : PySem.W.Frag} {S0 S : Sx} {F' H' : Hp} {v : V} {h : Hd} (R : Rel K S) (k : Kp S0 S) (q : GvOk K F' S.H H' v h) : HdOk K S0 ⟨F', S.ρ, S.σ, H'⟩ v h := by
  cases h with
  | dat d => exact q
  | slot i => exact q.elim
  | frL ds => obtain ⟨a, vs, e, n, f, h, r⟩ := q; exact ⟨a, vs, e, k.new n, f, h, r, fun o => (R.owns o).2 n⟩
  | frD ds => obtain ⟨a, vs, e, n, f, h, r⟩ := q; exact ⟨a, vs, e, k.new n, f, h, r, fun o => (R.owns o).2 n⟩
/-- an operation that reads its arguments and may make new objects -/
def GOp (K : PySem.W.Frag) (g : List PD → Option Hd) (xs : List V) (H : Hp) (Q : VK) : Prop := ∃ F ds h, Same F H ∧ RtA K F H xs ds ∧ g ds = some h ∧ ∀ v F' H', Grow F H F' H' → GvOk K F' H H' v h → Q v H'
def eOp (g : List PD → Option Hd) (fa : M (List Hd)) : M Hd := bnd fa fun hs ρ => match resA ρ hs with
  | some ds => match g ds with
    | some h => some (h, ρ)
    | none => none
  | none => none
theorem op_red {K : PySem.W.Frag} {g : List PD → Option Hd} {fa : M (List Hd)} {σ : St} {H : Hp} {Q : VK} (h : tDE K (eOp g fa) σ H Q) : tDA K fa σ H fun xs H1 => GOp K g xs H1 Q := by
  obtain ⟨S, h, ρ', e1, e2, R, e, q⟩ := h
  subst e1; subst e2
  obtain ⟨hs, ρ1, ea, e⟩ := bnd_some e
  refine ⟨S, hs, ρ1, rfl, rfl, R, ea, fun vs T es er RT kT hT => ?_⟩
  subst er
  cases e3 : resA T.ρ hs with
  | none => simp only [e3] at e; cases e
  | some ds =>
    cases e4 : g ds with
    | none => simp only [e3, e4] at e; cases e
    | some h' =>
      simp only [e3, e4] at e; cases e
      exact ⟨T.F, ds, h, RT.fh, hT.rt RT e3, e4, fun v F' H' gr gv => q v ⟨F', T.ρ, T.σ, H'⟩ es rfl (RT.grow gr) (kT.trans (Kp.grow gr)) (gv.hd RT kT)⟩
theorem two_red {K : PySem.W.Frag} {fa fb : M Hd} {σ : St} {H : Hp} {Q : List V → Hp → Prop} (h : tDA K (eCons fa (eCons fb eNil)) σ H Q) : tDE K fa σ H fun x H1 => tDE K fb σ H1 fun y H2 => Q [x, y] H2 := by
  obtain ⟨S, h, ρ', e1, e2, R, e, q⟩ := cons_red h
  refine ⟨S, h, ρ', e1, e2, R, e, fun v T a1 a2 a3 a4 a5 => ?_⟩
  obtain ⟨S', h', ρ'', e1', e2', R', e', q'⟩ := cons_red (q v T a1 a2 a3 a4 a5)
  refine ⟨S', h', ρ'', e1', e2', R', e', fun v' T' b1 b2 b3 b4 b5 => ?_⟩
  obtain ⟨S2, h2, ρ2, e12, e22, R2, e3, q2⟩ := q' v' T' b1 b2 b3 b4 b5
  obtain ⟨rfl, rfl⟩ := pur_some e3
  have := q2 [] S2 e12 rfl R2 (Kp.refl _) .nil
  rw [e22] at this
  exact this
theorem one_red {K : PySem.W.Frag} {fa : M Hd} {σ : St} {H : Hp} {Q : List V → Hp → Prop} (h : tDA K (eCons fa eNil) σ H Q) : tDE K fa σ H fun x H1 => Q [x] H1 := by
  obtain ⟨S, h, ρ', e1, e2, R, e, q⟩ := cons_red h
  refine ⟨S, h, ρ', e1, e2, R, e, fun v T a1 a2 a3 a4 a5 => ?_⟩
  obtain ⟨S2, h2, ρ2, e12, e22, R2, e3, q2⟩ := q v T a1 a2 a3 a4 a5
  obtain ⟨rfl, rfl⟩ := pur_some e3
  have := q2 [] S2 e12 rfl R2 (Kp.refl _) .nil
  rw [e22] at this
  exact this
abbrev e2 (g : List PD → Option Hd) (fa fb : M Hd) : M Hd := eOp g (eCons fa (eCons fb eNil))
abbrev e1 (g : List PD → Option Hd) (fa : M Hd) : M Hd := eOp g (eCons fa eNil)
abbrev GR2 (K : PySem.W.Frag) (g : List PD → Option Hd) : R2 := fun x y H Q => GOp K g [x, y] H Q
theorem d_bin {op : Operator} {fa fb : M Hd} {g : List PD → Option Hd} (ho : OpR X (binaryOp op) (GR2 X.K g)) (ha : PE X a (tDE X.K fa)) (hb : PE X b (tDE X.K fb)) : PE X (.BinOp a op b pos) (tDE X.K (e2 g fa fb)) :=
  pe_weak (pe_op ho ha hb) fun _ _ _ h => two_red (op_red h)
theorem d_cmp {op : CmpOp} {fa fb : M Hd} {g : List PD → Option Hd} (ho : OpR X (compareOp op) (GR2 X.K g)) (ha : PE X a (tDE X.K fa)) (hb : PE X b (tDE X.K fb)) (hm : behindInMarks op b = false) : PE X (.Compare a [op] [b] pos) (tDE X.K (e2 g fa fb)) :=
  pe_weak (pe_cmpR ho ha hb hm) fun _ _ _ h => two_red (op_red h)
theorem d_un {op : UnaryOp} {fa : M Hd} {g : List PD → Option Hd} (ho : UnR X (unaryOp op) (fun x H Q => GOp X.K g [x] H Q)) (ha : PE X a (tDE X.K fa)) : PE X (.UnaryOp op a pos) (tDE X.K (e1 g fa)) :=
  pe_weak (pe_un ho ha) fun _ _ _ h => one_red (op_red h)
theorem d_ix {fa fb : M Hd} {g : List PD → Option Hd} (ho : IxR X (GR2 X.K g)) (hs : PlainIx b) (ha : PE X a (tDE X.K fa)) (hb : PE X b (tDE X.K fb)) : PE X (.Subscript a b pos) (tDE X.K (e2 g fa fb)) :=
  pe_weak (pe_ix ho ha hb hs) fun _ _ _ h => two_red (op_red h)
theorem d_callB {x : Str} {p : Pos} {id : String} {fa : M (List Hd)} {g : List PD → Option Hd} (hc : CallR X (.builtin id) (GOp X.K g)) (hg : Gl X x) (hm : X.mg x = none) (hv : bootBuiltins x = some (.builtin id)) (ha : PA X (e :: es) (tDA X.K fa)) (hn : x ≠ "__name__" := by decide) (hdb : (x == ("__debug__" : Str)) = false := by decide)
    (he : starEach (e :: es) X.env = (false, eval e X.env) :: starEach es X.env := by rfl) (hpl : (backTo pos (starEach es X.env)).any (·.1) = false := by rfl) : PE X (.Call (.Name x p) (e :: es) [] pos) (tDE X.K (eOp g fa)) :=
  pe_weak (pe_callB hc hg hm hv ha hn hdb he hpl) fun _ _ _ h => op_red h
theorem d_callTy {x : Str} {p : Pos} {T : String} {fa : M (List Hd)} {g : List PD → Option Hd} (hc : CallR X (.type T) (GOp X.K g)) (hg : Gl X x) (hm : X.mg x = none) (hv : bootBuiltins x = some (.type T)) (ha : PA X (e :: es) (tDA X.K fa)) (hn : x ≠ "__name__" := by decide) (hdb : (x == ("__debug__" : Str)) = false := by decide)
    (he : starEach (e :: es) X.env = (false, eval e X.env) :: starEach es X.env := by rfl) (hpl : (backTo pos (starEach es X.env)).any (·.1) = false := by rfl) : PE X (.Call (.Name x p) (e :: es) [] pos) (tDE X.K (eOp g fa)) :=
  pe_weak (pe_callTy hc hg hm hv ha hn hdb he hpl) fun _ _ _ h => op_red h
/-- the results that an operation has by a rule over values -/
theorem GOp.dat {K : PySem.W.Frag} {F H : Hp} {Q : VK} {v : V} {d : PD} (s : Same F H) (q : ∀ v F' H', Grow F H F' H' → GvOk K F' H H' v (.dat d) → Q v H') (h : Rp K F v d) : Q v H := q v F H (Grow.refl s) h
theorem GOp.newT {K : PySem.W.Frag} {F H : Hp} {Q : VK} {vs : List V} {ds : List PD} (s : Same F H) (q : ∀ v F' H', Grow F H F' H' → GvOk K F' H H' v (.dat (.tuple ds)) → Q v H') (h : RpA K F vs ds) {p : Addr} (n : H p = none) : Q (.ref p) (upd H p (.tup vs)) :=
  q _ _ _ (grow_upd s n) (.tup upd_same (h.mono (grow_upd s n).ff))
theorem GOp.newL {K : PySem.W.Frag} {F H : Hp} {Q : VK} {vs : List V} {ds : List PD} (s : Same F H) (q : ∀ v F' H', Grow F H F' H' → GvOk K F' H H' v (.frL ds) → Q v H') (h : RpA K F vs ds) {p : Addr} (n : H p = none) : Q (.ref p) (upd H p (.lst vs)) :=
  q _ F _ (grow_new s n) ⟨p, vs, rfl, n, s.free n, upd_same, h⟩
theorem GOp.newD {K : PySem.W.Frag} {F H : Hp} {Q : VK} {vs : List (Key × V)} {ds : List (PD × PD)} (s : Same F H) (q : ∀ v F' H', Grow F H F' H' → GvOk K F' H H' v (.frD ds) → Q v H') (h : RpK K F vs ds) {p : Addr} (n : H p = none) : Q (.ref p) (upd H p (.dK vs)) :=
  q _ F _ (grow_new s n) ⟨p, vs, rfl, n, s.free n, upd_same, h⟩

/-! ### freezing, displays -/
def frzA : List Hd → M (List PD)
  | [] => pur []
  | h :: hs => bnd (frz h) fun d => bnd (frzA hs) fun ds => pur (d :: ds)
theorem HdsOk.by {K : PySem.W.Frag} {S T U : Sx} : ∀ {vs : List V} {hs : List Hd}, HdsOk K S T vs hs → (∀ (i : Nat) v h, vs[i]? = some v → hs[i]? = some h → HdOk K S T v h → HdOk K S U v h) → HdsOk K S U vs hs
  | _, _, .nil, _ => .nil
  | _, _, .cons q a r, f => .cons (f 0 _ _ rfl rfl q) a (HdsOk.by r fun i v h e1 e2 => f (i + 1) v h (by simpa using e1) (by simpa using e2))
theorem frzA_ok {K : PySem.W.Frag} {S0 : Sx} {σ : St} {H : Hp} : ∀ {F : Hp} {ρ : En} {vs : List V} {hs : List Hd} {ds : List PD} {ρ' : En}, Rel K ⟨F, ρ, σ, H⟩ → Kp S0 ⟨F, ρ, σ, H⟩ → HdsOk K S0 ⟨F, ρ, σ, H⟩ vs hs → frzA hs ρ = some (ds, ρ') →
    ∃ F', Rel K ⟨F', ρ', σ, H⟩ ∧ Kp S0 ⟨F', ρ', σ, H⟩ ∧ RpA K F' vs ds ∧ Same F F'
  | F, ρ, _, _, _, _, R, k, .nil, e => by
    obtain ⟨rfl, rfl⟩ := pur_some e
    exact ⟨F, R, k, .nil, Same.refl _⟩
  | F, ρ, _, _, _, _, R, k, .cons (h := h) (hs := hs) hh ap hr, e => by
    obtain ⟨d, ρ1, e1, e⟩ := bnd_some e
    obtain ⟨ds, ρ2, e2, e⟩ := bnd_some e
    obtain ⟨rfl, rfl⟩ := pur_some e
    obtain ⟨F1, R1, k1, r1, s1, nd, no⟩ := frz_ok R k hh e1
    have hr' : HdsOk K S0 ⟨F1, ρ1, σ, H⟩ _ hs := hr.by fun i v h' e1 e2 q => frz_keep (S := ⟨F, ρ, σ, H⟩) q s1 nd no fun z1 z2 => ap z1 i v h' e1 e2 z2
    obtain ⟨F2, R2, k2, r2, s2⟩ := frzA_ok R1 k1 hr' e2
    exact ⟨F2, R2, k2, .cons (r1.mono s2) r2, s1.trans s2⟩
/-- a tuple of written items -/
def eTup (fa : M (List Hd)) : M Hd := bnd fa fun hs => bnd (frzA hs) fun ds ρ => if ds.length ≤ sizeLine then some (.dat (.tuple ds), ρ) else none
def eLst (fa : M (List Hd)) : M Hd := bnd fa fun hs => bnd (frzA hs) fun ds ρ => if ds.length ≤ sizeLine then some (.frL ds, ρ) else none
theorem grow_step {K : PySem.W.Frag} {S T : Sx} {F' H' : Hp} (R : Rel K T) (k : Kp S T) (g : Grow T.F T.H F' H') : Rel K ⟨F', T.ρ, T.σ, H'⟩ ∧ Kp S ⟨F', T.ρ, T.σ, H'⟩ := ⟨R.grow g, k.trans (Kp.grow g)⟩
theorem d_tup {fa : M (List Hd)} {n : Nat} (h : PA X es (tDA X.K fa)) : PE X (.Tuple es n pos) (tDE X.K (eTup fa)) := by
  refine pe_weak (pe_tup h) fun σ H Q ⟨S, h, ρ', e1, e2, R, e, q⟩ => ?_
  subst e1; subst e2
  obtain ⟨hs, ρ1, ea, e⟩ := bnd_some e
  obtain ⟨ds, ρ2, eb, ez⟩ := bnd_some e
  refine ⟨S, hs, ρ1, rfl, rfl, R, ea, fun vs ⟨F, ρ, σ, H⟩ es er RT kT hT => ?_⟩
  simp only at es er
  subst er
  obtain ⟨F1, R1, k1, r1, s1⟩ := frzA_ok RT kT hT eb
  split at ez
  · next hz =>
    cases ez
    refine ⟨by rw [r1.len]; exact hz, fun p np => ?_⟩
    obtain ⟨R2, k2⟩ := grow_step R1 k1 (grow_upd (o := .tup vs) R1.fh np)
    exact q _ _ es rfl R2 k2 (.tup upd_same (r1.mono (grow_upd (o := .tup vs) R1.fh np).ff))
  · cases ez
theorem d_lst {fa : M (List Hd)} (h : PA X es (tDA X.K fa)) : PE X (.List es pos) (tDE X.K (eLst fa)) := by
  refine pe_weak (pe_lst h) fun σ H Q ⟨S, h, ρ', e1, e2, R, e, q⟩ => ?_
  subst e1; subst e2
  obtain ⟨hs, ρ1, ea, e⟩ := bnd_some e
  obtain ⟨ds, ρ2, eb, ez⟩ := bnd_some e
  refine ⟨S, hs, ρ1, rfl, rfl, R, ea, fun vs ⟨F, ρ, σ, H⟩ es er RT kT hT => ?_⟩
  simp only at es er
  subst er
  obtain ⟨F1, R1, k1, r1, s1⟩ := frzA_ok RT kT hT eb
  split at ez
  · next hz =>
    cases ez
    refine ⟨by rw [r1.len]; exact hz, fun p np => ?_⟩
    obtain ⟨R2, k2⟩ := grow_step R1 k1 (grow_new (o := .lst vs) R1.fh np)
    exact q _ _ es rfl R2 k2 ⟨p, vs, rfl, k1.new np, R1.fh.free np, upd_same, r1, fun o => (R1.owns o).2 np⟩
  · cases ez

/-! ### tests -/
def eTst (f : M Hd) : M Bool := bnd f fun h ρ => match res ρ h with
  | some (.bool b) => some (b, ρ)
  | _ => none
theorem tst_red {K : PySem.W.Frag} {f : M Hd} {σ : St} {H : Hp} {Q : Bool → Hp → Prop} (h : tDT K (eTst f) σ H Q) : tDE K f σ H fun x H1 => ∃ c, x = .bl c ∧ Q c H1 := by
  obtain ⟨S, b, ρ', e1, e2, R, e, q⟩ := h
  subst e1; subst e2
  obtain ⟨h, ρ1, ea, e⟩ := bnd_some e
  refine ⟨S, h, ρ1, rfl, rfl, R, ea, fun v T es er RT kT hT => ?_⟩
  subst er
  cases e3 : res T.ρ h with
  | none => simp only [e3] at e; cases e
  | some d =>
    cases d <;> simp only [e3] at e <;> try cases e
    have := hT.rt RT e3
    cases this
    exact ⟨b, rfl, q T es rfl RT kT⟩
theorem t_val {f : M Hd} (h : PE X e (tDE X.K f)) (he : ∀ whole, isTrue e X.env whole = (do let v ← whole; standAt e.pos; holding [v] (truthy v)) := by intro _; rfl) : PT X e (tDT X.K (eTst f)) :=
  pt_weak (pt_val h he) fun _ _ _ q => tst_red q
def tAndD (f g : M Bool) : M Bool := bnd f fun c => if c = true then g else pur false
def tOrD (f g : M Bool) : M Bool := bnd f fun c => if c = true then pur true else g
def tNotD (f : M Bool) : M Bool := bnd f fun c => pur (!c)
theorem t_not {f : M Bool} (h : PT X a (tDT X.K f)) : PT X (.UnaryOp .Not a pos) (tDT X.K (tNotD f)) := by
  refine pt_weak (pt_not h) fun σ H Q ⟨S, b, ρ', e1, e2, R, e, q⟩ => ?_
  obtain ⟨c, ρ1, ea, e⟩ := bnd_some e
  obtain ⟨rfl, rfl⟩ := pur_some e
  exact ⟨S, c, ρ', e1, e2, R, ea, q⟩
theorem t_and1 {f : M Bool} (h : PT X a (tDT X.K f)) : PW X (.BoolOp .And [a] pos) (tDT X.K f) := pw_and1 h
theorem t_or1 {f : M Bool} (h : PT X a (tDT X.K f)) : PW X (.BoolOp .Or [a] pos) (tDT X.K f) := pw_or1 h
theorem t_and {f g : M Bool} (ha : PT X a (tDT X.K f)) (hb : PW X (.BoolOp .And (b :: es) pos) (tDT X.K g)) : PW X (.BoolOp .And (a :: b :: es) pos) (tDT X.K (tAndD f g)) := by
  refine pw_weak (pw_and ha hb) fun σ H Q ⟨S, r, ρ', e1, e2, R, e, q⟩ => ?_
  subst e1; subst e2
  obtain ⟨c, ρ1, ea, e⟩ := bnd_some e
  refine ⟨S, c, ρ1, rfl, rfl, R, ea, fun T es er RT kT => ?_⟩
  subst er
  cases c with
  | true => exact ⟨T, r, ρ', es, rfl, RT, e, fun U a1 a2 a3 a4 => q U (a1) a2 a3 (kT.trans a4)⟩
  | false =>
    obtain ⟨rfl, rfl⟩ := pur_some e
    exact q T es rfl RT kT
theorem t_or {f g : M Bool} (ha : PT X a (tDT X.K f)) (hb : PW X (.BoolOp .Or (b :: es) pos) (tDT X.K g)) : PW X (.BoolOp .Or (a :: b :: es) pos) (tDT X.K (tOrD f g)) := by
  refine pw_weak (pw_or ha hb) fun σ H Q ⟨S, r, ρ', e1, e2, R, e, q⟩ => ?_
  subst e1; subst e2
  obtain ⟨c, ρ1, ea, e⟩ := bnd_some e
  refine ⟨S, c, ρ1, rfl, rfl, R, ea, fun T es er RT kT => ?_⟩
  subst er
  cases c with
  | false => exact ⟨T, r, ρ', es, rfl, RT, e, fun U a1 a2 a3 a4 => q U (a1) a2 a3 (kT.trans a4)⟩
  | true =>
    obtain ⟨rfl, rfl⟩ := pur_some e
    exact q T es rfl RT kT
/-- and, or, not as values (of truth values); a if t else b -/
def eAnd (f g : M Hd) : M Hd := bnd (eTst f) fun c => if c = true then g else pur (.dat (.bool false))
def eOr (f g : M Hd) : M Hd := bnd (eTst f) fun c => if c = true then pur (.dat (.bool true)) else g
def eNot (f : M Hd) : M Hd := bnd (eTst f) fun c => pur (.dat (.bool (!c)))
def eIf (t : M Bool) (f g : M Hd) : M Hd := bnd t fun c => if c = true then f else g
theorem tst_get {K : PySem.W.Frag} {f : M Hd} {S : Sx} {c : Bool} {ρ1 : En} {Q : VK} (R : Rel K S) (e : eTst f S.ρ = some (c, ρ1)) (q : ∀ T, T.σ = S.σ → T.ρ = ρ1 → Rel K T → Kp S T → Q (.bl c) T.H) : tDE K f S.σ S.H Q := by
  have h : tDT K (eTst f) S.σ S.H (fun b H1 => Q (.bl b) H1) := ⟨S, c, ρ1, rfl, rfl, R, e, q⟩
  obtain ⟨S', h', ρ', a1, a2, a3, a4, a5⟩ := tst_red h
  refine ⟨S', h', ρ', a1, a2, a3, a4, fun v T b1 b2 b3 b4 b5 => ?_⟩
  obtain ⟨c', rfl, z⟩ := a5 v T b1 b2 b3 b4 b5
  exact z
theorem d_and {f g : M Hd} (ha : PE X a (tDE X.K f)) (hb : PE X (.BoolOp .And (b :: es) pos) (tDE X.K g)) : PE X (.BoolOp .And (a :: b :: es) pos) (tDE X.K (eAnd f g)) := by
  refine pe_weak (pe_and ha hb) fun σ H Q ⟨S, r, ρ', e1, e2, R, e, q⟩ => ?_
  subst e1; subst e2
  obtain ⟨c, ρ1, ea, e⟩ := bnd_some e
  refine tst_get R ea fun T es er RT kT => ⟨c, rfl, ?_⟩
  subst er
  cases c with
  | true => exact ⟨T, r, ρ', es, rfl, RT, e, fun v U a1 a2 a3 a4 a5 => q v U a1 a2 a3 (kT.trans a4) (a5.back kT)⟩
  | false =>
    obtain ⟨rfl, rfl⟩ := pur_some e
    exact q _ T es rfl RT kT (.bl false)
theorem d_or {f g : M Hd} (ha : PE X a (tDE X.K f)) (hb : PE X (.BoolOp .Or (b :: es) pos) (tDE X.K g)) : PE X (.BoolOp .Or (a :: b :: es) pos) (tDE X.K (eOr f g)) := by
  refine pe_weak (pe_or ha hb) fun σ H Q ⟨S, r, ρ', e1, e2, R, e, q⟩ => ?_
  subst e1; subst e2
  obtain ⟨c, ρ1, ea, e⟩ := bnd_some e
  refine tst_get R ea fun T es er RT kT => ⟨c, rfl, ?_⟩
  subst er
  cases c with
  | false => exact ⟨T, r, ρ', es, rfl, RT, e, fun v U a1 a2 a3 a4 a5 => q v U a1 a2 a3 (kT.trans a4) (a5.back kT)⟩
  | true =>
    obtain ⟨rfl, rfl⟩ := pur_some e
    exact q _ T es rfl RT kT (.bl true)
theorem d_one {op : BoolOp} {f : M Hd} (ha : PE X a (tDE X.K f)) : PE X (.BoolOp op [a] pos) (tDE X.K f) := pe_one ha
theorem d_not {f : M Hd} (ha : PE X a (tDE X.K f)) : PE X (.UnaryOp .Not a pos) (tDE X.K (eNot f)) := by
  refine pe_weak (pe_not ha) fun σ H Q ⟨S, r, ρ', e1, e2, R, e, q⟩ => ?_
  subst e1; subst e2
  obtain ⟨c, ρ1, ea, e⟩ := bnd_some e
  obtain ⟨rfl, rfl⟩ := pur_some e
  exact tst_get R ea fun T es er RT kT => ⟨c, rfl, q _ T es er RT kT (.bl _)⟩
theorem d_if {t : M Bool} {f g : M Hd} (ht : PT X c (tDT X.K t)) (ha : PE X a (tDE X.K f)) (hb : PE X b (tDE X.K g)) : PE X (.IfExp c a b pos) (tDE X.K (eIf t f g)) := by
  refine pe_weak (pe_ifExp ht ha hb) fun σ H Q ⟨S, r, ρ', e1, e2, R, e, q⟩ => ?_
  subst e1; subst e2
  obtain ⟨c, ρ1, ea, e⟩ := bnd_some e
  refine ⟨S, c, ρ1, rfl, rfl, R, ea, fun T es er RT kT => ?_⟩
  subst er
  cases c with
  | true => exact ⟨T, r, ρ', es, rfl, RT, e, fun v U a1 a2 a3 a4 a5 => q v U a1 a2 a3 (kT.trans a4) (a5.back kT)⟩
  | false => exact ⟨T, r, ρ', es, rfl, RT, e, fun v U a1 a2 a3 a4 a5 => q v U a1 a2 a3 (kT.trans a4) (a5.back kT)⟩
/-- a < b < c -/
def eChain (g g' : List PD → Option Hd) (fa fb fc : M Hd) : M Hd := bnd fa fun x => bnd fb fun y ρ => match resA ρ [x, y] with
  | some ds => match g ds with
    | some (.dat (.bool c)) => if c = true then bnd fc (fun z ρ' => match resA ρ' [y, z] with
        | some es => match g' es with
          | some (.dat (.bool c')) => some (.dat (.bool c'), ρ')
          | _ => none
        | none => none) ρ else some (.dat (.bool false), ρ)
    | _ => none
  | none => none
theorem d_chain {op op' : CmpOp} {fa fb fc : M Hd} {g g' : List PD → Option Hd} (ho : OpR X (compareOp op) (GR2 X.K g)) (ho' : OpR X (compareOp op') (GR2 X.K g')) (ha : PE X a (tDE X.K fa)) (hb : PE X b (tDE X.K fb)) (hc : PE X c (tDE X.K fc)) (hm : lastMarks [op, op'] [b, c] = false := by rfl) :
    PE X (.Compare a [op, op'] [b, c] pos) (tDE X.K (eChain g g' fa fb fc)) := by
  refine pe_weak (pe_chain ho ho' ha hb hc hm) fun σ H Q ⟨S, r, ρ', e1, e2, R, e, q⟩ => ?_
  subst e1; subst e2
  obtain ⟨x, ρ1, ea, e⟩ := bnd_some e
  obtain ⟨y, ρ2, eb, e⟩ := bnd_some e
  refine ⟨S, x, ρ1, rfl, rfl, R, ea, fun v T es er RT kT hT => ⟨T, y, ρ2, es, rfl, RT, by rw [er]; exact eb, fun u U us ur RU kU hU => ?_⟩⟩
  subst ur
  have hx : HdOk X.K S U v x := hT.step kU (us.trans es.symm)
  have hy : HdOk X.K S U u y := hU.back kT
  cases e3 : resA U.ρ [x, y] with
  | none => simp only [e3] at e; cases e
  | some ds =>
    simp only [e3] at e
    cases e4 : g ds with
    | none => simp only [e4] at e; cases e
    | some w =>
      have hAB : RtA X.K U.F U.H [v, u] ds := by
        obtain ⟨d1, r1, z1, z2, rfl⟩ := resA_cons e3
        obtain ⟨d2, r2, z3, z4, rfl⟩ := resA_cons z2
        cases z4
        exact .cons (hx.rt RU z1) (.cons (hy.rt RU z3) .nil)
      refine ⟨U.F, ds, w, RU.fh, hAB, e4, fun p F' H' gr gv => ?_⟩
      cases w with
      | slot i => exact gv.elim
      | frL i => simp only [e4] at e; cases e
      | frD i => simp only [e4] at e; cases e
      | dat d =>
        cases d <;> simp only [e4] at e <;> try cases e
        next b1 =>
        have gv' : Rp X.K F' p (.bool b1) := gv
        cases gv'
        refine ⟨b1, rfl, ?_⟩
        obtain ⟨R3, k3⟩ := grow_step RU (kT.trans kU) gr
        cases b1 with
        | false =>
          simp only [Bool.false_eq_true, if_false] at e ⊢
          cases e
          exact q _ ⟨F', U.ρ, U.σ, H'⟩ us rfl R3 k3 (.bl false)
        | true =>
          simp only [if_true] at e ⊢
          obtain ⟨z, ρ3, ec, e⟩ := bnd_some e
          refine ⟨⟨F', U.ρ, U.σ, H'⟩, z, ρ3, us, rfl, R3, ec, fun w' W ws wr RW kW hW => ?_⟩
          subst wr
          have hy' : HdOk X.K S W u y := (hy.step (Kp.grow gr) rfl).step kW (ws.trans us.symm)
          have hz' : HdOk X.K S W w' z := hW.back k3
          cases e5 : resA W.ρ [y, z] with
          | none => simp only [e5] at e; cases e
          | some es' =>
            simp only [e5] at e
            cases e6 : g' es' with
            | none => simp only [e6] at e; cases e
            | some w2 =>
              have hBC : RtA X.K W.F W.H [u, w'] es' := by
                obtain ⟨d1, r1, z1, z2, rfl⟩ := resA_cons e5
                obtain ⟨d2, r2, z3, z4, rfl⟩ := resA_cons z2
                cases z4
                exact .cons (hy'.rt RW z1) (.cons (hz'.rt RW z3) .nil)
              refine ⟨W.F, es', w2, RW.fh, hBC, e6, fun p2 F2 H2 gr2 gv2 => ?_⟩
              obtain ⟨R5, k5⟩ := grow_step RW (k3.trans kW) gr2
              cases w2 with
              | slot i => exact gv2.elim
              | frL i => simp only [e6] at e; cases e
              | frD i => simp only [e6] at e; cases e
              | dat d =>
                cases d <;> simp only [e6] at e <;> try cases e
                exact q _ ⟨F2, W.ρ, W.σ, H2⟩ ws rfl R5 k5 gv2
end
end DL
set_option Elab.async false
set_option linter.all false
set_option maxRecDepth 100000
/-! DL: statements, targets, loops, list comprehensions. -/
namespace DL
open PySem PySem.Spec PyProof.Rows L2

/-! ### stores -/
def putW (i : Nat) (h : Hd) (ρ : En) : Option En := match h with
  | .frL ds => some (ρ.set i (.own ds))
  | .frD es => some (ρ.set i (.odk es))
  | .dat d => some (ρ.set i (.val d))
  | .slot j => match frz (.slot j) ρ with
    | some (d, ρ1) => some (ρ1.set i (.val d))
    | none => none
def stW (i : Nat) (h : Hd) (ρ : En) : Option En := match ρ[i]? with
  | none => none
  | some (.bor _) => none
  | some .un => putW i h ρ
  | some (.val _) => putW i h ρ
  | some (.own _) => putW i h ρ
  | some (.odk _) => putW i h ρ
  | some (.scr _) => putW i h ρ
theorem ow_set {ρ : En} {σ : St} {i : Nat} {s : SV} {o : Option V} {a : Addr} (h : Ow (ρ.set i s) (σ.set i o) a) (hl : ρ.length = σ.length) : Ow ρ σ a ∨ (s.isO = true ∧ o = some (.ref a)) := by
  obtain ⟨j, t, e, q, z⟩ := h
  by_cases hij : i = j
  · subst hij
    by_cases hi : i < ρ.length
    · rw [List.getElem?_set_self hi] at e
      rw [List.getElem?_set_self (by omega)] at z
      cases e; cases z
      exact .inr ⟨q, rfl⟩
    · rw [List.getElem?_eq_none (by simpa using hi)] at e; cases e
  · rw [List.getElem?_set_ne hij] at e z
    exact .inl ⟨j, t, e, q, z⟩
/-- a slot gets a new content, none of the old objects -/
theorem store_rel {K : PySem.W.Frag} {S0 S : Sx} {i : Nat} {s s0 : SV} {v : V} (R : Rel K S) (k : Kp S0 S) (hs : S.ρ[i]? = some s0) (hb : ∀ ds, s0 ≠ .bor ds) (so : SlotOk K S.F S.H s (some v)) (hnb : s.isO = true → ∃ a, v = .ref a ∧ S0.H a = none ∧ ¬ Owns S a) :
    Rel K ⟨S.F, S.ρ.set i s, S.σ.set i (some v), S.H⟩ ∧ Kp S0 ⟨S.F, S.ρ.set i s, S.σ.set i (some v), S.H⟩ := by
  have hi : i < S.ρ.length := (List.getElem?_eq_some_iff.mp hs).1
  have hi' : i < S.σ.length := by rw [← R.len]; exact hi
  have gets : ∀ (j : Nat) t, (S.ρ.set i s)[j]? = some t → (j = i ∧ t = s) ∨ (j ≠ i ∧ S.ρ[j]? = some t) := fun j t e => by
    by_cases hij : i = j
    · subst hij
      rw [List.getElem?_set_self hi] at e
      cases e; exact .inl ⟨rfl, rfl⟩
    · rw [List.getElem?_set_ne hij] at e
      exact .inr ⟨fun z => hij z.symm, e⟩
  have getv : ∀ (j : Nat) t, j ≠ i → (S.σ.set i (some v))[j]? = some t → S.σ[j]? = some t := fun j t n e => by
    rwa [List.getElem?_set_ne (fun z => n z.symm)] at e
  have geti : (S.σ.set i (some v))[i]? = some (some v) := List.getElem?_set_self hi'
  refine ⟨⟨by show (S.ρ.set i s).length = (S.σ.set i _).length; rw [List.length_set, List.length_set]; exact R.len, R.fh, fun j t o e1 e2 => ?_, fun j l t u a e1 q1 e2 q2 z1 z2 => ?_⟩, ⟨k.ff, k.keep, k.there, k.nof, fun a h => ?_, fun j ds e => ?_⟩⟩
  · rcases gets j t e1 with ⟨rfl, rfl⟩ | ⟨n, e1⟩
    · have e2' : (S.σ.set j (some v))[j]? = some o := e2
      rw [geti] at e2'; cases e2'
      exact so
    · exact R.slot j t o e1 (getv j o n e2)
  · rcases gets j t e1 with ⟨rfl, rfl⟩ | ⟨n, f1⟩ <;> rcases gets l u e2 with ⟨rfl, rfl⟩ | ⟨n', f2⟩
    · rfl
    · exfalso
      obtain ⟨b, rfl, _, no⟩ := hnb q1
      have z1' : (S.σ.set j (some (V.ref b)))[j]? = some (some (V.ref a)) := z1
      rw [geti] at z1'; cases z1'
      exact no ⟨l, u, f2, q2, getv l _ n' z2⟩
    · exfalso
      obtain ⟨b, rfl, _, no⟩ := hnb q2
      have z2' : (S.σ.set l (some (V.ref b)))[l]? = some (some (V.ref a)) := z2
      rw [geti] at z2'; cases z2'
      exact no ⟨j, t, f1, q1, getv j _ n z1⟩
    · exact R.dist j l t u a f1 q1 f2 q2 (getv j _ n z1) (getv l _ n' z2)
  · rcases ow_set h R.len with h | ⟨q, z⟩
    · exact k.own a h
    · obtain ⟨b, e, n, no⟩ := hnb q
      rw [e] at z; cases z
      exact .inr n
  · obtain ⟨⟨d', e'⟩, z⟩ := k.bor j ds e
    have n : j ≠ i := fun q => by subst q; rw [hs] at e'; cases e'; exact hb _ rfl
    refine ⟨⟨d', ?_⟩, ?_⟩
    · show (S.ρ.set i s)[j]? = _
      rw [List.getElem?_set_ne (fun q => n q.symm)]; exact e'
    · show (S.σ.set i _)[j]? = _
      rw [List.getElem?_set_ne (fun q => n q.symm)]; exact z
theorem stW_ok {K : PySem.W.Frag} {S0 : Sx} {F H : Hp} {ρ ρ' : En} {σ : St} {i : Nat} {h : Hd} {v : V} (R : Rel K ⟨F, ρ, σ, H⟩) (k : Kp S0 ⟨F, ρ, σ, H⟩) (q : HdOk K S0 ⟨F, ρ, σ, H⟩ v h) (e : stW i h ρ = some ρ') :
    ∃ F', Rel K ⟨F', ρ', σ.set i (some v), H⟩ ∧ Kp S0 ⟨F', ρ', σ.set i (some v), H⟩ ∧ Same F F' := by
  unfold stW at e
  cases hs : ρ[i]? with
  | none => rw [hs] at e; cases e
  | some s0 =>
    rw [hs] at e
    have hb : ∀ ds, s0 ≠ .bor ds := fun ds z => by subst z; cases e
    have e' : putW i h ρ = some ρ' := by cases s0 <;> first | exact e | cases e
    have viaD : ∀ d ρ1, frz h ρ = some (d, ρ1) → some (ρ1.set i (.val d)) = some ρ' → ∃ F', Rel K ⟨F', ρ', σ.set i (some v), H⟩ ∧ Kp S0 ⟨F', ρ', σ.set i (some v), H⟩ ∧ Same F F' := fun d ρ1 ez eq => by
      cases eq
      obtain ⟨F1, R1, k1, r1, s1, nd, no⟩ := frz_ok R k q ez
      have h1 : ∃ s1, ρ1[i]? = some s1 ∧ ∀ ds, s1 ≠ .bor ds := by
        cases h with
        | dat d' => cases ez; exact ⟨s0, hs, hb⟩
        | frL d' => cases ez; exact ⟨s0, hs, hb⟩
        | frD d' => cases ez; exact ⟨s0, hs, hb⟩
        | slot j =>
          simp only [frz] at ez
          have key : ∀ (sv : SV) (w : SV), ρ[j]? = some w → (∀ ds, sv ≠ .bor ds) → ∃ s1, (ρ.set j sv)[i]? = some s1 ∧ ∀ ds, s1 ≠ .bor ds := fun sv w hw hn => by
            by_cases hij : j = i
            · subst hij
              rw [List.getElem?_set_self (List.getElem?_eq_some_iff.mp hw).1]
              exact ⟨_, rfl, hn⟩
            · rw [List.getElem?_set_ne hij]
              exact ⟨s0, hs, hb⟩
          cases hj : ρ[j]? with
          | none => simp only [hj] at ez; cases ez
          | some w =>
            cases w <;> simp only [hj] at ez <;> cases ez
            · exact ⟨s0, hs, hb⟩
            · exact key _ _ hj fun _ z => by cases z
            · exact key _ _ hj fun _ z => by cases z
      obtain ⟨s1', hs1, hb1⟩ := h1
      obtain ⟨R2, k2⟩ := store_rel (s := .val d) (v := v) R1 k1 hs1 hb1 ⟨v, rfl, r1⟩ (fun z => by cases z)
      exact ⟨F1, R2, k2, s1⟩
    cases h with
    | frL ds =>
      cases e'
      obtain ⟨a, vs, rfl, n, f, hh, r, o⟩ := q
      obtain ⟨R2, k2⟩ := store_rel (s := .own ds) (v := .ref a) R k hs hb ⟨a, vs, rfl, f, hh, r⟩ (fun _ => ⟨a, rfl, n, o⟩)
      exact ⟨F, R2, k2, Same.refl _⟩
    | frD ds =>
      cases e'
      obtain ⟨a, vs, rfl, n, f, hh, r, o⟩ := q
      obtain ⟨R2, k2⟩ := store_rel (s := .odk ds) (v := .ref a) R k hs hb ⟨a, vs, rfl, f, hh, r⟩ (fun _ => ⟨a, rfl, n, o⟩)
      exact ⟨F, R2, k2, Same.refl _⟩
    | dat d => exact viaD d ρ rfl e'
    | slot j =>
      cases ez : frz (.slot j) ρ with
      | none => simp only [putW, ez] at e'; cases e'
      | some p =>
        obtain ⟨d, ρ1⟩ := p
        simp only [putW, ez] at e'
        exact viaD d ρ1 ez e'

/-! ### statements -/
def sSet (i : Nat) (f : M Hd) : M Out := bnd f fun h ρ => match stW i h ρ with
  | some ρ' => some (.nx, ρ')
  | none => none
def retH (h : Hd) (ρ : En) : Option (Hd × En) := match h with
  | .slot i => match ρ[i]? with
    | some (.val d) => some (.dat d, ρ)
    | some (.own ds) => some (.frL ds, ρ.set i .un)
    | some (.odk es) => some (.frD es, ρ.set i .un)
    | _ => none
  | h => some (h, ρ)
def sRet (f : M Hd) : M Out := bnd f fun h ρ => match retH h ρ with
  | some (h', ρ') => some (.rt h', ρ')
  | none => none
def sRetN : M Out := pur (.rt (.dat .none))
def sSeq (f g : M Out) : M Out := bnd f fun o => match o with
  | .nx => g
  | o => pur o
def sIf (t : M Bool) (f g : M Out) : M Out := bnd t fun c => if c = true then f else g
def sExpr (f : M Hd) : M Out := bnd f fun _ => pur .nx
def sNx : M Out := pur .nx
def sBad : M Out := fun _ => none
theorem Lands.of {K : PySem.W.Frag} {D : Ends} {S T : Sx} {ρ' : En} {o : Out} (k : Kp S T) (h : Lands K D S ρ' o) : Lands K D T ρ' o := by
  cases o with
  | nx => exact fun U e R q => h U e R (k.trans q)
  | bk => exact fun U e R q => h U e R (k.trans q)
  | ct => exact fun U e R q => h U e R (k.trans q)
  | rt h' => exact fun v U e R q z => h v U e R (k.trans q) (z.back k)
section
variable {X : Cx} {e a b c : Expr} {es : List Expr} {pos : Pos} {st : Stmt} {rest : List Stmt}
theorem s_setG {i : Nat} {te : TE} {f : M Hd} (h : PS X st (tAsg te (gName i))) (w : ∀ σ H Q, tDE X.K f σ H Q → te σ H Q) : PS X st (tDS X.K (sSet i f)) := by
  refine ps_weak h fun D σ H ⟨S, o, ρ', e1, e2, R, e, q⟩ => w _ _ _ ?_
  subst e1; subst e2
  obtain ⟨h, ρ1, ea, e⟩ := bnd_some e
  refine ⟨S, h, ρ1, rfl, rfl, R, ea, fun v ⟨F, ρ, σ, H⟩ es er RT kT hT => ?_⟩
  simp only at es er
  subst er
  cases ez : stW i h ρ with
  | none => simp only [ez] at e; cases e
  | some ρ2 =>
    simp only [ez] at e; cases e
    obtain ⟨F', R', k', _⟩ := stW_ok RT kT hT ez
    have := q _ rfl R' k'
    show D.nx (S.σ.set i (some v)) H
    rw [← es]
    exact this
theorem s_set {i : Nat} {x : Str} {f : M Hd} {pos' : Pos} (hN : X.N.Nodup) (hi : X.N[i]? = some x) (hx : Loc X.env.scope x) (he : PE X e (tDE X.K f)) (hs : swapsWith e (some (.Name x pos')) pos.line X.env = pure false := by rfl) (hf : X.fn x = true ∨ X.env.scope.names.lookup x = some .local := by first | exact .inl rfl | exact .inr rfl | assumption) :
    PS X (.Assign [.Name x pos'] e pos) (tDS X.K (sSet i f)) := s_setG (ps_set hN hi hx he hs hf) fun _ _ _ h => h
theorem RtOk_dat {K : PySem.W.Frag} {S T : Sx} {v : V} {h : Hd} (q : HdOk K S T v h) (n : ∀ i, h ≠ .slot i) : RtOk K S T v h := by
  cases h with
  | dat d => exact q
  | slot i => exact absurd rfl (n i)
  | frL ds => obtain ⟨a, vs, e, n, r⟩ := q; exact ⟨a, vs, e, .inr n, r⟩
  | frD ds => obtain ⟨a, vs, e, n, r⟩ := q; exact ⟨a, vs, e, .inr n, r⟩
/-- a slot let go -/
theorem drop_rel {K : PySem.W.Frag} {S0 S : Sx} {i : Nat} {s : SV} {a : Addr} (R : Rel K S) (k : Kp S0 S) (hs : S.ρ[i]? = some s) (hO : s.isO = true) (hb : ∀ ds, s ≠ .bor ds) (hv : S.σ[i]? = some (some (.ref a))) :
    Rel K ⟨S.F, S.ρ.set i .un, S.σ, S.H⟩ ∧ Kp S0 ⟨S.F, S.ρ.set i .un, S.σ, S.H⟩ ∧ ¬ Ow (S.ρ.set i .un) S.σ a := by
  have hi : i < S.ρ.length := (List.getElem?_eq_some_iff.mp hs).1
  have un : ∀ (j : Nat) t, (S.ρ.set i .un)[j]? = some t → t.isO = true → j ≠ i ∧ S.ρ[j]? = some t := fun j t e q => by
    by_cases hij : i = j
    · subst hij
      rw [List.getElem?_set_self hi] at e
      cases e; cases q
    · rw [List.getElem?_set_ne hij] at e
      exact ⟨fun z => hij z.symm, e⟩
  refine ⟨⟨by show (S.ρ.set i _).length = _; rw [List.length_set]; exact R.len, R.fh, fun j t o e1 e2 => ?_, fun j l t u a e1 q1 e2 q2 z1 z2 => R.dist j l t u a (un j t e1 q1).2 q1 (un l u e2 q2).2 q2 z1 z2⟩, ⟨k.ff, k.keep, k.there, k.nof, fun b h => k.own b (owns_set rfl h), fun j ds e => ?_⟩, fun h => ?_⟩
  · have e1' : (S.ρ.set i .un)[j]? = some t := e1
    by_cases hij : i = j
    · subst hij
      rw [List.getElem?_set_self hi] at e1'
      cases e1'
      trivial
    · rw [List.getElem?_set_ne hij] at e1'
      exact R.slot j t o e1' e2
  · obtain ⟨⟨d', e'⟩, z⟩ := k.bor j ds e
    refine ⟨⟨d', ?_⟩, z⟩
    show (S.ρ.set i _)[j]? = _
    rw [List.getElem?_set_ne]
    · exact e'
    · rintro rfl
      rw [hs] at e'; cases e'
      exact hb _ rfl
  · obtain ⟨j, t, e, q, z⟩ := h
    obtain ⟨n, e'⟩ := un j t e q
    exact n (R.dist j i t s a e' q hs hO z hv)
theorem s_ret {f : M Hd} (he : PE X e (tDE X.K f)) : PS X (.Return (some e) pos) (tDS X.K (sRet f)) := by
  refine ps_weak (ps_ret he) fun D σ H ⟨S, o, ρ', e1, e2, R, e, q⟩ => ?_
  subst e1; subst e2
  obtain ⟨h, ρ1, ea, e⟩ := bnd_some e
  refine ⟨S, h, ρ1, rfl, rfl, R, ea, fun v ⟨F, ρ, σ, H⟩ es er RT kT hT => ?_⟩
  simp only at es er
  subst er
  cases ez : retH h ρ with
  | none => simp only [ez] at e; cases e
  | some p =>
    obtain ⟨h', ρ2⟩ := p
    simp only [ez] at e; cases e
    cases h with
    | dat d => cases ez; exact q v ⟨F, _, σ, H⟩ rfl RT kT (RtOk_dat hT fun i z => by cases z)
    | frL d => cases ez; exact q v ⟨F, _, σ, H⟩ rfl RT kT (RtOk_dat hT fun i z => by cases z)
    | frD d => cases ez; exact q v ⟨F, _, σ, H⟩ rfl RT kT (RtOk_dat hT fun i z => by cases z)
    | slot i =>
      simp only [retH] at ez
      cases hs : ρ[i]? with
      | none => simp only [hs] at ez; cases ez
      | some s =>
        have so := RT.slot i s _ hs hT
        have hT' : σ[i]? = some (some v) := hT
        cases s with
        | un => simp only [hs] at ez; cases ez
        | bor d => simp only [hs] at ez; cases ez
        | scr d => simp only [hs] at ez; cases ez
        | val d =>
          simp only [hs] at ez; cases ez
          obtain ⟨v', e1, r⟩ := so
          cases e1
          exact q v ⟨F, _, σ, H⟩ rfl RT kT r
        | own ds =>
          simp only [hs] at ez; cases ez
          obtain ⟨a, vs, e1, f, hh, r⟩ := so
          cases e1
          obtain ⟨R2, k2, no⟩ := drop_rel RT kT hs rfl (fun _ z => by cases z) hT'
          exact q (.ref a) ⟨F, List.set ρ i .un, σ, H⟩ rfl R2 k2 ⟨a, vs, rfl, kT.own a ⟨i, _, hs, rfl, hT'⟩, f, hh, r, no⟩
        | odk ds =>
          simp only [hs] at ez; cases ez
          obtain ⟨a, vs, e1, f, hh, r⟩ := so
          cases e1
          obtain ⟨R2, k2, no⟩ := drop_rel RT kT hs rfl (fun _ z => by cases z) hT'
          exact q (.ref a) ⟨F, List.set ρ i .un, σ, H⟩ rfl R2 k2 ⟨a, vs, rfl, kT.own a ⟨i, _, hs, rfl, hT'⟩, f, hh, r, no⟩
theorem s_retN : PS X (.Return none pos) (tDS X.K sRetN) := by
  refine ps_weak ps_retN fun D σ H ⟨S, o, ρ', e1, e2, R, e, q⟩ => ?_
  subst e1; subst e2
  obtain ⟨rfl, rfl⟩ := pur_some e
  exact q _ S rfl R (Kp.refl S) .non
theorem ss_nil : PSs X [] (tDS X.K sNx) := by
  refine pss_weak pss_nil fun D σ H ⟨S, o, ρ', e1, e2, R, e, q⟩ => ?_
  subst e1; subst e2
  obtain ⟨rfl, rfl⟩ := pur_some e
  exact q S rfl R (Kp.refl S)
theorem s_pass : PS X (.Pass pos) (tDS X.K sNx) := by
  refine ps_weak ps_pass fun D σ H ⟨S, o, ρ', e1, e2, R, e, q⟩ => ?_
  subst e1; subst e2
  obtain ⟨rfl, rfl⟩ := pur_some e
  exact q S rfl R (Kp.refl S)
theorem s_break : PS X (.Break pos) (tDS X.K (pur .bk)) := by
  refine ps_weak ps_break fun D σ H ⟨S, o, ρ', e1, e2, R, e, q⟩ => ?_
  subst e1; subst e2
  obtain ⟨rfl, rfl⟩ := pur_some e
  exact q S rfl R (Kp.refl S)
theorem s_continue : PS X (.Continue pos) (tDS X.K (pur .ct)) := by
  refine ps_weak ps_continue fun D σ H ⟨S, o, ρ', e1, e2, R, e, q⟩ => ?_
  subst e1; subst e2
  obtain ⟨rfl, rfl⟩ := pur_some e
  exact q S rfl R (Kp.refl S)
theorem s_bad : PS X st (tDS X.K sBad) := ps_weak ps_never fun D σ H ⟨S, o, ρ', e1, e2, R, e, q⟩ => by cases e
theorem seq_red {K : PySem.W.Frag} {f g : M Out} {D : Ends} {σ : St} {H : Hp} (h : tDS K (sSeq f g) D σ H) : tDS K f { D with nx := tDS K g D } σ H := by
  obtain ⟨S, o, ρ', e1, e2, R, e, q⟩ := h
  subst e1; subst e2
  obtain ⟨o1, ρ1, ea, e⟩ := bnd_some e
  refine ⟨S, o1, ρ1, rfl, rfl, R, ea, ?_⟩
  cases o1 with
  | nx => exact fun T e1 RT kT => ⟨T, o, ρ', rfl, rfl, RT, by rw [e1]; exact e, q.of kT⟩
  | bk =>
    obtain ⟨rfl, rfl⟩ := pur_some e
    exact q
  | ct =>
    obtain ⟨rfl, rfl⟩ := pur_some e
    exact q
  | rt h =>
    obtain ⟨rfl, rfl⟩ := pur_some e
    exact q
theorem ss_cons {f g : M Out} (h1 : PS X st (tDS X.K f)) (h2 : PSs X rest (tDS X.K g)) : PSs X (st :: rest) (tDS X.K (sSeq f g)) := pss_weak (pss_cons h1 h2) fun _ _ _ h => seq_red h
theorem ss_one {f : M Out} (h1 : PS X st (tDS X.K f)) : PSs X [st] (tDS X.K f) := pss_one h1
theorem s_if {t : M Bool} {f g : M Out} {as bs : List Stmt} (hc : PT X c (tDT X.K t)) (ha : PSs X as (tDS X.K f)) (hb : PSs X bs (tDS X.K g)) : PS X (.If c as bs pos) (tDS X.K (sIf t f g)) := by
  refine ps_weak (ps_if hc ha hb) fun D σ H ⟨S, r, ρ', e1, e2, R, e, q⟩ => ?_
  subst e1; subst e2
  obtain ⟨c, ρ1, ea, e⟩ := bnd_some e
  refine ⟨S, c, ρ1, rfl, rfl, R, ea, fun T es er RT kT => ?_⟩
  subst er
  cases c with
  | true => exact ⟨T, r, ρ', es, rfl, RT, e, q.of kT⟩
  | false => exact ⟨T, r, ρ', es, rfl, RT, e, q.of kT⟩
theorem s_expr {f : M Hd} (he : PE X e (tDE X.K f)) (hs : swapsWith e none pos.line X.env = pure false := by rfl) : PS X (.Expr e pos) (tDS X.K (sExpr f)) := by
  refine ps_weak (ps_expr he hs) fun D σ H ⟨S, r, ρ', e1, e2, R, e, q⟩ => ?_
  subst e1; subst e2
  obtain ⟨h, ρ1, ea, e⟩ := bnd_some e
  obtain ⟨rfl, rfl⟩ := pur_some e
  exact ⟨S, h, ρ', rfl, rfl, R, ea, fun v T es er RT kT hT => es ▸ q T er RT kT⟩
/-- x += e of ints -/
def sAug (i : Nat) (g : Int → Int → Int) (f : M Hd) : M Out := fun ρ => match ρ[i]? with
  | some (.val (.int x)) => bnd f (fun h ρ1 => match h with
    | .dat (.int y) => match ρ1[i]? with
      | some (.val _) => some (.nx, ρ1.set i (.val (.int (g x y))))
      | _ => none
    | _ => none) ρ
  | _ => none
theorem s_aug {i : Nat} {x : Str} {f : M Hd} {op : Operator} {g : Int → Int → Int} {pos' : Pos} (hN : X.N.Nodup) (hi : X.N[i]? = some x) (hx : Loc X.env.scope x) (he : PE X e (tDE X.K f)) (ho : PIp X op (ipI g))
    (hf : X.fn x = true ∨ X.env.scope.names.lookup x = some .local := by first | exact .inl rfl | exact .inr rfl | assumption) :
    PS X (.AugAssign (.Name x pos') op e pos) (tDS X.K (sAug i g f)) := by
  refine ps_weak (ps_aug hN hi hx he ho hf) fun D σ H ⟨S, r, ρ', e1, e2, R, e, q⟩ => ?_
  subst e1; subst e2
  unfold sAug at e
  cases hs : S.ρ[i]? with
  | none => rw [hs] at e; cases e
  | some s =>
    cases s with
    | val d =>
      cases d with
      | int z =>
        simp only [hs] at e
        obtain ⟨o, ho, so⟩ := R.at hs
        obtain ⟨v, rfl, rv⟩ := so
        cases rv
        obtain ⟨h, ρ1, ea, e⟩ := bnd_some e
        refine ⟨.int z, ho, S, h, ρ1, rfl, rfl, R, ea, fun v T es er RT kT hT => ?_⟩
        subst er
        cases h with
        | dat d =>
          cases d with
          | int y =>
            have hT' : Rp X.K T.F v (.int y) := hT
            cases hT'
            cases hs1 : T.ρ[i]? with
            | none => simp only [hs1] at e; cases e
            | some s1 =>
              cases s1 <;> simp only [hs1] at e <;> cases e
              refine ⟨z, y, rfl, rfl, ?_⟩
              obtain ⟨R2, k2⟩ := store_rel (s := .val (.int (g z y))) (v := .int (g z y)) RT kT hs1 (fun _ z => by cases z) ⟨_, rfl, .int _⟩ (fun z => by cases z)
              have := q _ rfl R2 k2
              rw [← es]
              exact this
          | none => cases e
          | bool b => cases e
          | str b => cases e
          | list b => cases e
          | tuple b => cases e
          | dict b => cases e
        | slot d => cases e
        | frL d => cases e
        | frD d => cases e
      | none => simp only [hs] at e; cases e
      | bool b => simp only [hs] at e; cases e
      | str b => simp only [hs] at e; cases e
      | list b => simp only [hs] at e; cases e
      | tuple b => simp only [hs] at e; cases e
      | dict b => simp only [hs] at e; cases e
    | un => simp only [hs] at e; cases e
    | own b => simp only [hs] at e; cases e
    | bor b => simp only [hs] at e; cases e
    | odk b => simp only [hs] at e; cases e
    | scr b => simp only [hs] at e; cases e
end
end DL
set_option Elab.async false
set_option linter.all false
set_option maxRecDepth 100000
/-! DL: targets, loops, list comprehensions. -/
namespace DL
open PySem PySem.Spec PyProof.Rows L2

/-! ### targets -/
abbrev Gt := PD → En → Option En
abbrev Gts := List PD → En → Option En
def gN (i : Nat) : Gt := fun d ρ => stW i (.dat d) ρ
def gsN : Gts := fun ds ρ => match ds with
  | [] => some ρ
  | _ => none
def gsC (g : Gt) (gs : Gts) : Gts := fun ds ρ => match ds with
  | d :: r => match g d ρ with
    | some ρ1 => gs r ρ1
    | none => none
  | [] => none
def gT (n : Nat) (gs : Gts) : Gt := fun d ρ => match d with
  | .tuple ds => if ds.length = n then gs ds ρ else none
  | _ => none
/-- but for the slots of ws the values stay -/
def Off (ws : List Nat) (S T : Sx) : Prop := T.H = S.H ∧ T.σ.length = S.σ.length ∧ ∀ i, i ∉ ws → T.σ[i]? = S.σ[i]?
theorem Off.trans {vs ws us : List Nat} {S T U : Sx} (a : Off vs S T) (b : Off ws T U) (h1 : ∀ i ∈ vs, i ∈ us) (h2 : ∀ i ∈ ws, i ∈ us) : Off us S U :=
  ⟨b.1.trans a.1, b.2.1.trans a.2.1, fun i n => (b.2.2 i fun z => n (h2 i z)).trans (a.2.2 i fun z => n (h1 i z))⟩
def tGD (K : PySem.W.Frag) (ws : List Nat) (g : Gt) : TG := fun v σ H Q => ∃ (S : Sx) (d : PD) (ρ' : En), S.σ = σ ∧ S.H = H ∧ Rel K S ∧ Rp K S.F v d ∧ g d S.ρ = some ρ' ∧ ∀ T : Sx, T.ρ = ρ' → Off ws S T → Rel K T → Kp S T → Q T.σ T.H
def tGDs (K : PySem.W.Frag) (ws : List Nat) (g : Gts) : TGs := fun vs σ H Q => ∃ (S : Sx) (ds : List PD) (ρ' : En), S.σ = σ ∧ S.H = H ∧ Rel K S ∧ RpA K S.F vs ds ∧ g ds S.ρ = some ρ' ∧ ∀ T : Sx, T.ρ = ρ' → Off ws S T → Rel K T → Kp S T → Q T.σ T.H
section
variable {X : Cx} {e a b c tg : Expr} {es : List Expr} {pos : Pos} {st : Stmt}
theorem pg_weak {t t' : TG} (h : PG X e t) (w : ∀ v σ H Q, t' v σ H Q → t v σ H Q) : PG X e t' := ⟨fun pins s σ H v u Q I r q => h.run pins s σ H v u Q I r (w v σ H Q q)⟩
theorem pgs_weak {t t' : TGs} (h : PGs X es t) (w : ∀ v σ H Q, t' v σ H Q → t v σ H Q) : PGs X es t' := ⟨fun pins s σ H v u Q I r q => h.run pins s σ H v u Q I r (w v σ H Q q)⟩
theorem g_name {i : Nat} {x : Str} (hN : X.N.Nodup) (hi : X.N[i]? = some x) (hx : Loc X.env.scope x) (hf : X.fn x = true ∨ X.env.scope.names.lookup x = some .local := by first | exact .inl rfl | exact .inr rfl | assumption) : PG X (.Name x pos) (tGD X.K [i] (gN i)) := by
  refine pg_weak (pg_name hN hi hx hf) fun v σ H Q ⟨⟨F, ρ, σ', H'⟩, d, ρ', e1, e2, R, r, e, q⟩ => ?_
  simp only at e1 e2; subst e1; subst e2
  obtain ⟨F', R', k', _⟩ := stW_ok R (Kp.refl _) (show HdOk X.K _ _ v (.dat d) from r) e
  exact q ⟨F', ρ', σ'.set i (some v), H'⟩ rfl ⟨rfl, List.length_set, fun j n => List.getElem?_set_ne fun z => n (by simp [z])⟩ R' k'
theorem gs_nil : PGs X [] (tGDs X.K [] gsN) := by
  refine pgs_weak pgs_nil fun v σ H Q ⟨S, ds, ρ', e1, e2, R, r, e, q⟩ => ?_
  subst e1; subst e2
  cases r with
  | nil =>
    cases e
    exact ⟨rfl, q S rfl ⟨rfl, rfl, fun _ _ => rfl⟩ R (Kp.refl S)⟩
  | cons _ _ => cases e
theorem gs_cons {g : Gt} {gs : Gts} {vs ws : List Nat} (h1 : PG X e (tGD X.K vs g)) (h2 : PGs X es (tGDs X.K ws gs)) (hs : (assignEach (e :: es) X.env).map (·.2) = assign e X.env :: (assignEach es X.env).map (·.2) := by rfl) : PGs X (e :: es) (tGDs X.K (vs ++ ws) (gsC g gs)) := by
  refine pgs_weak (pgs_cons h1 h2 hs) fun v σ H Q ⟨S, ds, ρ', e1, e2, R, r, e, q⟩ => ?_
  subst e1; subst e2
  cases r with
  | nil => cases e
  | @cons _ _ d ds r rs =>
    cases e3 : g d S.ρ with
    | none => simp only [gsC, e3] at e; cases e
    | some ρ1 =>
      simp only [gsC, e3] at e
      exact ⟨_, _, rfl, S, d, ρ1, rfl, rfl, R, r, e3, fun T er eh RT kT => ⟨T, ds, ρ', rfl, rfl, RT, rs.mono kT.ff, by rw [er]; exact e, fun U a1 a2 a3 a4 => q U a1 (eh.trans a2 (fun i z => List.mem_append_left _ z) fun i z => List.mem_append_right _ z) a3 (kT.trans a4)⟩⟩
theorem g_tup {k n : Nat} {gs : Gts} {ws : List Nat} (hc : X.calm = true) (h : PGs X es (tGDs X.K ws gs)) (hn : (assignEach es X.env).length = n := by rfl) (hst : (assignEach es X.env).findIdx? (·.1) = none := by rfl) : PG X (.Tuple es k pos) (tGD X.K ws (gT n gs)) := by
  refine pg_weak (pg_tup hc h hn hst) fun v σ H Q ⟨S, d, ρ', e1, e2, R, r, e, q⟩ => ?_
  subst e1; subst e2
  cases r with
  | @tup a xs ds hq rs =>
    by_cases hz : ds.length = n
    · simp only [gT, if_pos hz] at e
      refine ⟨a, xs, rfl, ?_, by rw [rs.len]; exact hz, S, ds, ρ', rfl, rfl, R, rs, e, q⟩
      exact .inl (.inl (R.fh _ _ hq))
    · simp only [gT, if_neg hz] at e; cases e
  | non => cases e
  | bl b => cases e
  | int b => cases e
  | str b => cases e
  | lst b c => cases e
  | dct b c => cases e
/-- target = value, the value frozen -/
def eFrz (f : M Hd) : M PD := bnd f frz
def sAsg (f : M Hd) (g : Gt) : M Out := bnd (eFrz f) fun d ρ => match g d ρ with
  | some ρ' => some (.nx, ρ')
  | none => none
theorem s_asg {f : M Hd} {g : Gt} {ws : List Nat} (he : PE X e (tDE X.K f)) (hg : PG X tg (tGD X.K ws g)) (hs : swapsWithSole [tg] e pos.line X.env = pure false := by rfl) (hw : swappedStores [tg] e X.env = pure none := by rfl)
    (h1 : (assignEach [tg] X.env).map (·.2) = [assign tg X.env] := by rfl) : PS X (.Assign [tg] e pos) (tDS X.K (sAsg f g)) := by
  refine ps_weak (ps_asg he hg hs hw h1) fun D σ H ⟨S, o, ρ', e1, e2, R, e, q⟩ => ?_
  subst e1; subst e2
  obtain ⟨d, ρ1, ed, e⟩ := bnd_some e
  obtain ⟨h, ρ2, ea, ez⟩ := bnd_some ed
  refine ⟨S, h, ρ2, rfl, rfl, R, ea, fun v ⟨F, ρ, σ, H⟩ es er RT kT hT => ?_⟩
  simp only at es er; subst er
  obtain ⟨F1, R1, k1, r1, _⟩ := frz_ok RT kT hT ez
  cases e3 : g d ρ1 with
  | none => simp only [e3] at e; cases e
  | some ρ3 =>
    simp only [e3] at e; cases e
    exact ⟨⟨F1, ρ1, σ, H⟩, d, _, es, rfl, R1, r1, e3, fun T a1 _ a3 a4 => q T a1 a3 (k1.trans a4)⟩
/-- a, b = x, y: two slots' own objects are frozen first -/
def thaw : Hd → M Hd
  | .slot i => bnd (frz (.slot i)) fun d => pur (.dat d)
  | h => pur h
def sPar (i j : Nat) (fa : M (List Hd)) : M Out := bnd fa fun hs => match hs with
  | [x, y] => bnd (thaw x) fun x => bnd (thaw y) fun y ρ => match stW i x ρ with
    | some ρ1 => match stW j y ρ1 with
      | some ρ2 => some (.nx, ρ2)
      | none => none
    | none => none
  | _ => fun _ => none
theorem thaw_ok {K : PySem.W.Frag} {S0 : Sx} {F H : Hp} {ρ ρ' : En} {σ : St} {v v' : V} {h h' g : Hd} (R : Rel K ⟨F, ρ, σ, H⟩) (k : Kp S0 ⟨F, ρ, σ, H⟩) (q : HdOk K S0 ⟨F, ρ, σ, H⟩ v h) (q' : HdOk K S0 ⟨F, ρ, σ, H⟩ v' h') (e : thaw h ρ = some (g, ρ')) :
    ∃ F', Rel K ⟨F', ρ', σ, H⟩ ∧ Kp S0 ⟨F', ρ', σ, H⟩ ∧ HdOk K S0 ⟨F', ρ', σ, H⟩ v g ∧ HdOk K S0 ⟨F', ρ', σ, H⟩ v' h' ∧ (∀ i, g ≠ .slot i) ∧ (g.isFr = true → g = h) := by
  cases h with
  | dat d => obtain ⟨rfl, rfl⟩ := pur_some e; exact ⟨F, R, k, q, q', fun i z => (by cases z), fun _ => rfl⟩
  | frL d => obtain ⟨rfl, rfl⟩ := pur_some e; exact ⟨F, R, k, q, q', fun i z => (by cases z), fun _ => rfl⟩
  | frD d => obtain ⟨rfl, rfl⟩ := pur_some e; exact ⟨F, R, k, q, q', fun i z => (by cases z), fun _ => rfl⟩
  | slot i =>
    obtain ⟨d, ρ1, ed, e⟩ := bnd_some e
    obtain ⟨rfl, rfl⟩ := pur_some e
    obtain ⟨F', R', k', r', sm, nd, no⟩ := frz_ok R k q ed
    exact ⟨F', R', k', r', frz_keep q' sm nd no (fun z => by cases z), fun i z => (by cases z), fun z => by cases z⟩
/-- a handle that is no slot's stays behind a store -/
theorem HdOk.stored {K : PySem.W.Frag} {S0 S T : Sx} {v : V} {h : Hd} (k : Kp S T) (q : HdOk K S0 S v h) (n : ∀ i, h ≠ .slot i) : HdOk K S0 T v h := by
  cases h with
  | dat d => exact Rp.mono k.ff q
  | slot i => exact absurd rfl (n i)
  | frL ds =>
    obtain ⟨a, vs, e, n, f, h, r, o⟩ := q
    have hn : S.H a ≠ none := by rw [h]; simp
    exact ⟨a, vs, e, n, k.nof a hn f o, k.keep a _ h o, r.mono k.ff, k.nown hn o⟩
  | frD ds =>
    obtain ⟨a, vs, e, n, f, h, r, o⟩ := q
    have hn : S.H a ≠ none := by rw [h]; simp
    exact ⟨a, vs, e, n, k.nof a hn f o, k.keep a _ h o, r.mono k.ff, k.nown hn o⟩
/-- another new object stays behind a store of a first one -/
theorem stW_keep {K : PySem.W.Frag} {S0 : Sx} {F H : Hp} {ρ ρ' : En} {σ : St} {i : Nat} {h h' : Hd} {v v' : V} (R : Rel K ⟨F, ρ, σ, H⟩) (k : Kp S0 ⟨F, ρ, σ, H⟩) (q : HdOk K S0 ⟨F, ρ, σ, H⟩ v h) (q' : HdOk K S0 ⟨F, ρ, σ, H⟩ v' h') (n : ∀ i, h ≠ .slot i) (n' : ∀ i, h' ≠ .slot i)
    (ap : h.isFr = true → h'.isFr = true → v' ≠ v) (e : stW i h ρ = some ρ') : Rel K ⟨F, ρ', σ.set i (some v), H⟩ ∧ Kp S0 ⟨F, ρ', σ.set i (some v), H⟩ ∧ HdOk K S0 ⟨F, ρ', σ.set i (some v), H⟩ v' h' := by
  unfold stW at e
  cases hs : ρ[i]? with
  | none => rw [hs] at e; cases e
  | some s0 =>
    rw [hs] at e
    have hb : ∀ ds, s0 ≠ .bor ds := fun ds z => by subst z; cases e
    have e' : putW i h ρ = some ρ' := by cases s0 <;> first | exact e | cases e
    have fin : ∀ (s : SV), SlotOk K F H s (some v) → (s.isO = true → h.isFr = true ∧ ∃ a, v = .ref a ∧ S0.H a = none ∧ ¬ Ow ρ σ a) → ρ' = ρ.set i s →
        Rel K ⟨F, ρ', σ.set i (some v), H⟩ ∧ Kp S0 ⟨F, ρ', σ.set i (some v), H⟩ ∧ HdOk K S0 ⟨F, ρ', σ.set i (some v), H⟩ v' h' := fun s so hO ez => by
      subst ez
      obtain ⟨R2, k2⟩ := store_rel (s := s) (v := v) R k hs hb so (fun z => (hO z).2)
      refine ⟨R2, k2, ?_⟩
      have key : ∀ a, v' = .ref a → h'.isFr = true → ¬ Ow ρ σ a → ¬ Ow (ρ.set i s) (σ.set i (some v)) a := fun a ea hf no z => by
        rcases ow_set z R.len with z | ⟨z1, z2⟩
        · exact no z
        · cases z2
          exact ap (hO z1).1 hf ea
      cases h' with
      | dat d => exact q'
      | slot i => exact absurd rfl (n' i)
      | frL ds => obtain ⟨a, vs, e, n, f, h, r, o⟩ := q'; exact ⟨a, vs, e, n, f, h, r, key a e rfl o⟩
      | frD ds => obtain ⟨a, vs, e, n, f, h, r, o⟩ := q'; exact ⟨a, vs, e, n, f, h, r, key a e rfl o⟩
    cases h with
    | dat d => cases e'; exact fin (.val d) ⟨v, rfl, q⟩ (fun z => by cases z) rfl
    | slot i => exact absurd rfl (n i)
    | frL ds =>
      cases e'
      obtain ⟨a, vs, rfl, n, f, hh, r, o⟩ := q
      exact fin (.own ds) ⟨a, vs, rfl, f, hh, r⟩ (fun _ => ⟨rfl, a, rfl, n, o⟩) rfl
    | frD ds =>
      cases e'
      obtain ⟨a, vs, rfl, n, f, hh, r, o⟩ := q
      exact fin (.odk ds) ⟨a, vs, rfl, f, hh, r⟩ (fun _ => ⟨rfl, a, rfl, n, o⟩) rfl
theorem s_par {i j : Nat} {x y : Str} {fa : M (List Hd)} {px py pt : Pos} {kt k2 pt2} (hc : X.calm = true) (hN : X.N.Nodup) (hi : X.N[i]? = some x) (hj : X.N[j]? = some y) (hij : i ≠ j)
    (hx : X.env.scope.names.lookup x = some .local) (hy : X.env.scope.names.lookup y = some .local) (ha : PA X [a, b] (tDA X.K fa))
    (hw : swappedStores [.Tuple [.Name x px, .Name y py] kt pt] (.Tuple [a, b] k2 pt2) X.env = pure (some [x, y]))
    (hs : swapsWithSole [.Tuple [.Name x px, .Name y py] kt pt] (.Tuple [a, b] k2 pt2) pos.line X.env = pure false := by rfl) :
    PS X (.Assign [.Tuple [.Name x px, .Name y py] kt pt] (.Tuple [a, b] k2 pt2) pos) (tDS X.K (sPar i j fa)) := by
  refine ps_weak (ps_par hc hN hi hj hij hx hy ha hw hs) fun D σ H ⟨S, o, ρ', e1, e2, R, e, q⟩ => ?_
  subst e1; subst e2
  obtain ⟨hs, ρ1, ea, e⟩ := bnd_some e
  refine ⟨S, hs, ρ1, rfl, rfl, R, ea, fun vs ⟨F, ρ, σ, H⟩ es er RT kT hT => ?_⟩
  simp only at es er; subst er
  cases hT with
  | nil => cases e
  | cons h1 a1 r =>
    cases r with
    | nil => cases e
    | cons h2 a2 r =>
      cases r with
      | cons _ _ _ => cases e
      | nil =>
        rename_i v hx' w hy'
        obtain ⟨g1, ρ2, t1, e⟩ := bnd_some e
        obtain ⟨g2, ρ3, t2, e⟩ := bnd_some e
        obtain ⟨F1, R1, k1, q1, p1, n1, f1⟩ := thaw_ok RT kT h1 h2 t1
        obtain ⟨F2, R2, k2, q2, p2, n2, f2⟩ := thaw_ok R1 k1 p1 q1 t2
        cases e3 : stW i g1 ρ3 with
        | none => simp only [e3] at e; cases e
        | some ρ4 =>
          simp only [e3] at e
          cases e4 : stW j g2 ρ4 with
          | none => simp only [e4] at e; cases e
          | some ρ5 =>
            simp only [e4] at e; cases e
            have ap : g1.isFr = true → g2.isFr = true → w ≠ v := fun z1 z2 => by
              rw [f1 z1] at z1
              rw [f2 z2] at z2
              exact a1 z1 0 w hy' rfl rfl z2
            obtain ⟨R3, k3, q3⟩ := stW_keep R2 k2 p2 q2 n1 n2 ap e3
            obtain ⟨F4, R4, k4, _⟩ := stW_ok R3 k3 q3 e4
            refine ⟨v, w, rfl, ?_⟩
            have := q _ rfl R4 k4
            rw [← es]
            exact this
end

/-! ### what is walked -/
/-- the iterator gives the items while what is frozen stands -/
def ItOk (K : PySem.W.Frag) (J : It) (F0 : Hp) (items : List PD) : Prop := ∀ (i : Nat) (F H : Hp), Same F0 F → Same F H →
  (∀ d, items[i]? = some d → J.go i H ∧ ∀ x H', J.yld i H x H' → ∃ F', Grow F H F' H' ∧ Rp K F' x d) ∧ (i = items.length → J.stop i H)
def tDI (K : PySem.W.Frag) (f : M (List PD)) : TI := fun σ H R => ∃ (S : Sx) (items : List PD) (ρ' : En), S.σ = σ ∧ S.H = H ∧ Rel K S ∧ f S.ρ = some (items, ρ') ∧ ∀ (J : It) (T : Sx), T.σ = σ → T.ρ = ρ' → Rel K T → Kp S T → ItOk K J T.F items → R J T.H
/-- the turns of a for -/
def forD (g : Gt) (fb : M Out) : List PD → M Out
  | [], ρ => some (.nx, ρ)
  | d :: r, ρ => match g d ρ with
    | some ρ1 => match fb ρ1 with
      | some (.nx, ρ2) => forD g fb r ρ2
      | some (.ct, ρ2) => forD g fb r ρ2
      | some (.bk, ρ2) => some (.nx, ρ2)
      | some (.rt h, ρ2) => some (.rt h, ρ2)
      | none => none
    | none => none
def sFor (fi : M (List PD)) (g : Gt) (fb : M Out) : M Out := bnd fi fun items => forD g fb items
section
variable {X : Cx} {e a b c tg iter : Expr} {es : List Expr} {pos : Pos} {st : Stmt} {body : List Stmt}
theorem s_for {fi : M (List PD)} {g : Gt} {fb : M Out} {ws : List Nat} (hp : PassesOwn (model X.prog X.w) X.A X.env X.xe) (hc : X.calm = true) (hi : PI X tg iter (tDI X.K fi)) (hg : PG X tg (tGD X.K ws g)) (hb : PSs X body (tDS X.K fb))
    (hs : ∀ x, foldedSetIterable iter X.env x = pure x := by intro _; rfl) : PS X (.For tg iter body [] pos) (tDS X.K (sFor fi g fb)) := by
  refine ps_weak (ps_for hp hc hi hg hb hs) fun D σ H ⟨S, o, ρ', e1, e2, R, e, q⟩ => ?_
  subst e1; subst e2
  obtain ⟨items, ρ1, ea, e⟩ := bnd_some e
  refine ⟨S, items, ρ1, rfl, rfl, R, ea, fun J T es er RT kT hJ => ?_⟩
  subst er
  refine ⟨fun i m σ H => ∃ U : Sx, U.σ = σ ∧ U.H = H ∧ Rel X.K U ∧ Kp S U ∧ Same T.F U.F ∧ i ≤ items.length ∧ m = items.length - i ∧ forD g fb (items.drop i) U.ρ = some (o, ρ'), ⟨_, T, es, rfl, RT, kT, Same.refl _, Nat.zero_le _, rfl, by rw [List.drop_zero]; exact e⟩, ?_⟩
  rintro i m σ H ⟨U, rfl, rfl, RU, kU, sU, hle, rfl, eU⟩
  obtain ⟨go, stop⟩ := hJ i U.F U.H sU RU.fh
  by_cases hlt : i < items.length
  · obtain ⟨g1, g2⟩ := go _ (List.getElem?_eq_getElem hlt)
    rw [List.drop_eq_getElem_cons hlt] at eU
    simp only [forD] at eU
    cases e3 : g items[i] U.ρ with
    | none => simp only [e3] at eU; cases eU
    | some ρ2 =>
      simp only [e3] at eU
      refine .inr ⟨g1, fun σ' H' => ∃ W : Sx, W.σ = σ' ∧ W.H = H' ∧ Rel X.K W ∧ Kp S W ∧ Same T.F W.F ∧ forD g fb (items.drop (i + 1)) W.ρ = some (o, ρ'), fun σ' H' ⟨W, w1, w2, w3, w4, w5, w6⟩ => ⟨items.length - (i + 1), by omega, W, w1, w2, w3, w4, w5, by omega, rfl, w6⟩, fun x H' y => ?_⟩
      obtain ⟨F', gr, rx⟩ := g2 x H' y
      have RU' := RU.grow gr
      have kU' := kU.trans (Kp.grow gr)
      refine ⟨⟨F', U.ρ, U.σ, H'⟩, items[i], ρ2, rfl, rfl, RU', rx, e3, fun W wr wh RW kW => ?_⟩
      cases e4 : fb ρ2 with
      | none => simp only [e4] at eU; cases eU
      | some p =>
        obtain ⟨o2, ρ3⟩ := p
        have kSW := kU'.trans kW
        have sTW : Same T.F W.F := (sU.trans gr.ff).trans kW.ff
        refine ⟨W, o2, ρ3, rfl, rfl, RW, by rw [wr]; exact e4, ?_⟩
        cases o2 with
        | nx =>
          simp only [e4] at eU
          exact fun V vr RV kV => ⟨V, rfl, rfl, RV, kSW.trans kV, sTW.trans kV.ff, by rw [vr]; exact eU⟩
        | ct =>
          simp only [e4] at eU
          exact fun V vr RV kV => ⟨V, rfl, rfl, RV, kSW.trans kV, sTW.trans kV.ff, by rw [vr]; exact eU⟩
        | bk =>
          simp only [e4] at eU; cases eU
          exact fun V vr RV kV => q V vr RV (kSW.trans kV)
        | rt h =>
          simp only [e4] at eU; cases eU
          exact fun v V vr RV kV hv => q v V vr RV (kSW.trans kV) (hv.back kSW)
  · rw [List.drop_eq_nil_of_le (by omega)] at eU
    simp only [forD] at eU; cases eU
    exact .inl ⟨stop (by omega), q U rfl RU kU⟩
/-- while, at most so many turns -/
def whileD (t : M Bool) (fb : M Out) : Nat → M Out
  | 0, _ => none
  | n + 1, ρ => match t ρ with
    | some (true, ρ1) => match fb ρ1 with
      | some (.nx, ρ2) => whileD t fb n ρ2
      | some (.ct, ρ2) => whileD t fb n ρ2
      | some (.bk, ρ2) => some (.nx, ρ2)
      | some (.rt h, ρ2) => some (.rt h, ρ2)
      | none => none
    | some (false, ρ1) => some (.nx, ρ1)
    | none => none
theorem s_while {t : M Bool} {fb : M Out} (n : Nat) (hp : PassesOwn (model X.prog X.w) X.A X.env X.xe) (hc : PT X c (tDT X.K t)) (hb : PSs X body (tDS X.K fb)) : PS X (.While c body [] pos) (tDS X.K (whileD t fb n)) := by
  refine ps_weak (ps_while hp hc hb) fun D σ H ⟨S, o, ρ', e1, e2, R, e, q⟩ => ?_
  subst e1; subst e2
  refine ⟨fun m σ H => ∃ U : Sx, U.σ = σ ∧ U.H = H ∧ Rel X.K U ∧ Kp S U ∧ whileD t fb m U.ρ = some (o, ρ'), ⟨n, S, rfl, rfl, R, Kp.refl S, e⟩, ?_⟩
  rintro m σ H ⟨U, rfl, rfl, RU, kU, eU⟩
  cases m with
  | zero => cases eU
  | succ m =>
    simp only [whileD] at eU
    cases e3 : t U.ρ with
    | none => simp only [e3] at eU; cases eU
    | some p =>
      obtain ⟨b, ρ2⟩ := p
      refine ⟨U, b, ρ2, rfl, rfl, RU, e3, fun W ws wr RW kW => ?_⟩
      cases b with
      | false =>
        simp only [e3] at eU; cases eU
        rw [if_neg Bool.false_ne_true]
        exact ws ▸ q W wr RW (kU.trans kW)
      | true =>
        simp only [e3] at eU
        rw [if_pos rfl]
        have kSW := kU.trans kW
        refine ⟨fun σ' H' => ∃ V : Sx, V.σ = σ' ∧ V.H = H' ∧ Rel X.K V ∧ Kp S V ∧ whileD t fb m V.ρ = some (o, ρ'), fun σ' H' z => ⟨m, Nat.lt_succ_self m, z⟩, ?_⟩
        cases e4 : fb ρ2 with
        | none => simp only [e4] at eU; cases eU
        | some p =>
          obtain ⟨o2, ρ3⟩ := p
          refine ⟨W, o2, ρ3, ws, rfl, RW, by rw [wr]; exact e4, ?_⟩
          cases o2 with
          | nx =>
            simp only [e4] at eU
            exact fun V vr RV kV => ⟨V, rfl, rfl, RV, kSW.trans kV, by rw [vr]; exact eU⟩
          | ct =>
            simp only [e4] at eU
            exact fun V vr RV kV => ⟨V, rfl, rfl, RV, kSW.trans kV, by rw [vr]; exact eU⟩
          | bk =>
            simp only [e4] at eU; cases eU
            exact fun V vr RV kV => q V vr RV (kSW.trans kV)
          | rt h =>
            simp only [e4] at eU; cases eU
            exact fun v V vr RV kV hv => q v V vr RV (kSW.trans kV) (hv.back kSW)
end
end DL
set_option Elab.async false
set_option linter.all false
set_option maxRecDepth 100000
/-! DL: list comprehensions. -/
namespace DL
open PySem PySem.Spec PyProof.Rows L2

theorem relink {K : PySem.W.Frag} {S0 : Sx} {F H : Hp} {ρ ρ' : En} {σ σ' : St} {ws : List Nat} (R : Rel K ⟨F, ρ, σ, H⟩) (k : Kp S0 ⟨F, ρ, σ, H⟩) (hl : ρ'.length = ρ.length) (hl' : σ'.length = σ.length) (hn : ∀ i, i ∉ ws → ρ'[i]? = ρ[i]? ∧ σ'[i]? = σ[i]?)
    (hv : ∀ i, i ∈ ws → ∀ s o, ρ'[i]? = some s → σ'[i]? = some o → s.isO = false ∧ SlotOk K F H s o) (hb : ∀ i, i ∈ ws → ∀ ds, ρ[i]? ≠ some (.bor ds)) : Rel K ⟨F, ρ', σ', H⟩ ∧ Kp S0 ⟨F, ρ', σ', H⟩ := by
  have ll : ρ'.length = σ'.length := hl.trans (R.len.trans hl'.symm)
  have old : ∀ (i : Nat) s, ρ'[i]? = some s → s.isO = true → i ∉ ws := fun i s e q z => by
    have hi : i < σ'.length := by rw [← ll]; exact (List.getElem?_eq_some_iff.mp e).1
    have := (hv i z s _ e (List.getElem?_eq_getElem hi)).1
    rw [q] at this; cases this
  refine ⟨⟨ll, R.fh, fun i s o e1 e2 => ?_, fun i j s t a e1 q1 e2 q2 z1 z2 => ?_⟩, ⟨k.ff, k.keep, k.there, k.nof, fun a h => ?_, fun i ds e => ?_⟩⟩
  · by_cases z : i ∈ ws
    · exact (hv i z s o e1 e2).2
    · obtain ⟨n1, n2⟩ := hn i z
      exact R.slot i s o (n1 ▸ e1) (n2 ▸ e2)
  · have m1 := old i s e1 q1
    have m2 := old j t e2 q2
    exact R.dist i j s t a ((hn i m1).1 ▸ e1) q1 ((hn j m2).1 ▸ e2) q2 ((hn i m1).2 ▸ z1) ((hn j m2).2 ▸ z2)
  · obtain ⟨i, s, e, q, z⟩ := h
    have m := old i s e q
    exact k.own a ⟨i, s, (hn i m).1 ▸ e, q, (hn i m).2 ▸ z⟩
  · obtain ⟨⟨d', e'⟩, z⟩ := k.bor i ds e
    have m : i ∉ ws := fun z => hb i z d' e'
    exact ⟨⟨d', (hn i m).1.trans e'⟩, (hn i m).2.trans z⟩
theorem wipe_get (σ : St) : ∀ (ws : List Nat) (i : Nat), (wipe σ ws)[i]? = if i ∈ ws then (if i < σ.length then some none else none) else σ[i]?
  | [], i => by simp [wipe]
  | v :: ws, i => by
    unfold wipe
    have hl := wipe_length σ ws
    by_cases e : v = i
    · subst e
      by_cases h : v < σ.length
      · rw [List.getElem?_set_self (by omega)]
        simp [h]
      · rw [List.getElem?_eq_none (by simp; omega)]
        simp [h]
    · rw [List.getElem?_set_ne e, wipe_get σ ws i]
      have : (i ∈ v :: ws) = (i ∈ ws) := by
        simp only [List.mem_cons, eq_iff_iff]
        exact ⟨fun h => h.elim (fun z => absurd z.symm e) id, .inr⟩
      simp only [this]
theorem wipe_eq {σ τ : St} {ws : List Nat} (hl : σ.length = τ.length) (h : ∀ i, i ∉ ws → σ[i]? = τ[i]?) : wipe σ ws = wipe τ ws := by
  apply List.ext_getElem?
  intro i
  rw [wipe_get, wipe_get, hl]
  by_cases z : i ∈ ws
  · simp only [z, if_true]
  · simp only [z, if_false]
    exact h i z
/-- the slots of the block's own names, free -/
def wipeE : List Nat → En → Option En
  | [], ρ => some ρ
  | i :: r, ρ => match ρ[i]? with
    | some .un => wipeE r ρ
    | some (.val _) => wipeE r (ρ.set i .un)
    | _ => none
def restE : List Nat → En → En → En
  | [], _, ρ => ρ
  | i :: r, ρ0, ρ => restE r ρ0 (ρ.set i (ρ0[i]?.getD .un))
theorem wipeE_spec : ∀ {ws : List Nat} {ρ ρ' : En}, wipeE ws ρ = some ρ' → ρ'.length = ρ.length ∧ (∀ i, i ∉ ws → ρ'[i]? = ρ[i]?) ∧ (∀ i, i ∈ ws → ρ'[i]? = some .un ∧ ∃ s, ρ[i]? = some s ∧ s.isO = false)
  | [], ρ, ρ', e => by
    cases e
    exact ⟨rfl, fun _ _ => rfl, fun _ h => by cases h⟩
  | i :: r, ρ, ρ', e => by
    have go : ∀ (ρ1 : En) (s : SV), ρ[i]? = some s → s.isO = false → ρ1.length = ρ.length → (∀ j, j ≠ i → ρ1[j]? = ρ[j]?) → ρ1[i]? = some .un → wipeE r ρ1 = some ρ' → ρ'.length = ρ.length ∧ (∀ j, j ∉ i :: r → ρ'[j]? = ρ[j]?) ∧ (∀ j, j ∈ i :: r → ρ'[j]? = some .un ∧ ∃ s, ρ[j]? = some s ∧ s.isO = false) := by
      intro ρ1 s hs hO hl hne hi ez
      obtain ⟨l, n, v⟩ := wipeE_spec ez
      refine ⟨l.trans hl, fun j hj => ?_, fun j hj => ?_⟩
      · simp only [List.mem_cons, not_or] at hj
        rw [n j hj.2, hne j hj.1]
      · by_cases hji : j = i
        · subst hji
          refine ⟨?_, s, hs, hO⟩
          by_cases hr : j ∈ r
          · exact (v j hr).1
          · rw [n j hr]; exact hi
        · have hr : j ∈ r := by
            rcases List.mem_cons.mp hj with z | z
            · exact absurd z hji
            · exact z
          obtain ⟨v1, s', v2, v3⟩ := v j hr
          exact ⟨v1, s', by rw [← hne j hji]; exact v2, v3⟩
    cases hs : ρ[i]? with
    | none => simp only [wipeE, hs] at e; cases e
    | some s =>
      have hi : i < ρ.length := (List.getElem?_eq_some_iff.mp hs).1
      cases s with
      | un =>
        simp only [wipeE, hs] at e
        exact go ρ .un hs rfl rfl (fun _ _ => rfl) hs e
      | val d =>
        simp only [wipeE, hs] at e
        exact go (ρ.set i .un) (.val d) hs rfl List.length_set (fun j hj => List.getElem?_set_ne fun z => hj z.symm) (List.getElem?_set_self hi) e
      | own d => simp only [wipeE, hs] at e; cases e
      | bor d => simp only [wipeE, hs] at e; cases e
      | odk d => simp only [wipeE, hs] at e; cases e
      | scr d => simp only [wipeE, hs] at e; cases e
theorem restE_spec : ∀ (ws : List Nat) (ρ0 ρ : En), (restE ws ρ0 ρ).length = ρ.length ∧ (∀ i, i ∉ ws → (restE ws ρ0 ρ)[i]? = ρ[i]?) ∧ (∀ i, i ∈ ws → i < ρ.length → (restE ws ρ0 ρ)[i]? = some (ρ0[i]?.getD .un))
  | [], ρ0, ρ => ⟨rfl, fun _ _ => rfl, fun _ h => by cases h⟩
  | v :: r, ρ0, ρ => by
    obtain ⟨l, n, w⟩ := restE_spec r ρ0 (ρ.set v (ρ0[v]?.getD .un))
    have hl : (ρ.set v (ρ0[v]?.getD .un)).length = ρ.length := List.length_set
    refine ⟨l.trans hl, fun i hi => ?_, fun i hi hlt => ?_⟩
    · simp only [List.mem_cons, not_or] at hi
      show (restE r ρ0 _)[i]? = _
      rw [n i hi.2, List.getElem?_set_ne fun z => hi.1 z.symm]
    · show (restE r ρ0 _)[i]? = _
      by_cases hr : i ∈ r
      · exact w i hr (by omega)
      · rw [n i hr]
        have : i = v := by
          rcases List.mem_cons.mp hi with z | z
          · exact z
          · exact absurd z hr
        subst this
        exact List.getElem?_set_self hlt
/-- the turns of a comprehension -/
def compD (ws : List Nat) (g : Gt) (tt : M Bool) (te : M Hd) : List PD → List PD → M (List PD)
  | [], acc, ρ => some (acc, ρ)
  | d :: r, acc, ρ => match g d ρ with
    | none => none
    | some ρ1 => match tt ρ1 with
      | none => none
      | some (false, ρ2) => match wipeE ws ρ2 with
        | none => none
        | some ρ3 => compD ws g tt te r acc ρ3
      | some (true, ρ2) => match eFrz te ρ2 with
        | none => none
        | some (x, ρ3) => match wipeE ws ρ3 with
          | none => none
          | some ρ4 => compD ws g tt te r (acc ++ [x]) ρ4
def eComp (ws : List Nat) (fi : M (List PD)) (g : Gt) (tt : M Bool) (te : M Hd) : M Hd := bnd fi fun items ρ =>
  if items.length ≤ sizeLine then match wipeE ws ρ with
    | none => none
    | some ρ1 => match compD ws g tt te items [] ρ1 with
      | none => none
      | some (acc, ρ2) => some (.frL acc, restE ws ρ ρ2)
  else none
/-- an unowned new object changed -/
theorem upd_rel {K : PySem.W.Frag} {S0 S : Sx} {a : Addr} {o : HO} (R : Rel K S) (k : Kp S0 S) (n : S0.H a = none) (f : S.F a = none) (h : S.H a ≠ none) (no : ¬ Owns S a) : Rel K ⟨S.F, S.ρ, S.σ, upd S.H a o⟩ ∧ Kp S0 ⟨S.F, S.ρ, S.σ, upd S.H a o⟩ := by
  refine ⟨⟨R.len, fun b x e => ?_, fun i s v e1 e2 => ?_, R.dist⟩, ⟨k.ff, fun b x e nb => ?_, fun b hb => ?_, k.nof, k.own, k.bor⟩⟩
  · have : b ≠ a := ne_of_none e f
    show upd S.H a o b = some x
    rw [upd_ne this]
    exact R.fh b x e
  · have so := R.slot i s v e1 e2
    have na : ∀ b, s.isO = true → v = some (.ref b) → b ≠ a := fun b q z e => no ⟨i, s, e1, q, by rw [e2, z, e]⟩
    cases s with
    | un => trivial
    | val d => exact so
    | own ds => obtain ⟨b, vs, e, g, h, r⟩ := so; exact ⟨b, vs, e, g, (upd_ne (na b rfl e)).trans h, r⟩
    | bor ds => obtain ⟨b, vs, e, g, h, r⟩ := so; exact ⟨b, vs, e, g, (upd_ne (na b rfl e)).trans h, r⟩
    | odk ds => obtain ⟨b, vs, e, g, h, r⟩ := so; exact ⟨b, vs, e, g, (upd_ne (na b rfl e)).trans h, r⟩
    | scr ns => exact so
  · show upd S.H a o b = some x
    rw [upd_ne (fun z => by rw [z, n] at e; cases e)]
    exact k.keep b x e nb
  · show upd S.H a o b ≠ none
    rw [upd_ne (fun z => hb (by rw [z]; exact n))]
    exact k.there b hb
theorem comp_red {K : PySem.W.Frag} {ws vs : List Nat} {fi : M (List PD)} {g : Gt} {tt : M Bool} {te : M Hd} {σ : St} {H : Hp} {Q : VK} (hsub : ∀ i ∈ vs, i ∈ ws) (h : tDE K (eComp ws fi g tt te) σ H Q) : tLc (tDI K fi) (tGD K vs g) (tDT K tt) (tDE K te) ws σ H Q := by
  obtain ⟨S, h, ρ', e1, e2, R, e, q⟩ := h
  subst e1; subst e2
  obtain ⟨items, ρ1, ea, e⟩ := bnd_some e
  refine ⟨S, items, ρ1, rfl, rfl, R, ea, fun J T es er RT kT hJ D hD => ?_⟩
  subst er
  by_cases hsz : items.length ≤ sizeLine
  · rw [if_pos hsz] at e
    cases ew : wipeE ws T.ρ with
    | none => simp only [ew] at e; cases e
    | some ρw =>
      simp only [ew] at e
      obtain ⟨wl, wn, wv⟩ := wipeE_spec ew
      cases ec : compD ws g tt te items [] ρw with
      | none => simp only [ec] at e; cases e
      | some p =>
        obtain ⟨accf, ρf⟩ := p
        simp only [ec] at e; cases e
        have nD : S.H D = none := kT.new hD
        have wb : ∀ (U : Sx) (ρ' : En), Rel K U → Kp S U → wipeE ws U.ρ = some ρ' → U.σ.length = S.σ.length → (∀ i, i ∉ ws → U.σ[i]? = S.σ[i]?) →
            Rel K ⟨U.F, ρ', wipe S.σ ws, U.H⟩ ∧ Kp S ⟨U.F, ρ', wipe S.σ ws, U.H⟩ ∧ (U.H D ≠ none → ¬ Owns U D → ¬ Ow ρ' (wipe S.σ ws) D) ∧ ∀ i, i ∈ ws → ρ'[i]? = some .un := fun U ρ' RU kU z hl ho => by
          obtain ⟨l, n, v⟩ := wipeE_spec z
          have core : ∀ S0, Kp S0 ⟨U.F, U.ρ, U.σ, U.H⟩ → Rel K ⟨U.F, ρ', wipe S.σ ws, U.H⟩ ∧ Kp S0 ⟨U.F, ρ', wipe S.σ ws, U.H⟩ := fun S0 k0 => by
            refine relink (ws := ws) RU k0 l (by rw [wipe_length]; exact hl.symm) (fun i hi => ⟨n i hi, ?_⟩) (fun i hi s o z1 z2 => ?_) fun i hi ds e => ?_
            · rw [wipe_get, if_neg hi]; exact (ho i hi).symm
            · rw [(v i hi).1] at z1; cases z1
              exact ⟨rfl, trivial⟩
            · obtain ⟨_, s, e2, q⟩ := v i hi
              rw [e] at e2; cases e2; cases q
          exact ⟨(core S kU).1, (core S kU).2, fun hu no z => ((core U (Kp.refl U)).2.own D z).elim no hu, fun i hi => (v i hi).1⟩
        obtain ⟨R0, k0, _, u0⟩ := wb T ρw RT kT ew (by rw [es]) (fun i _ => by rw [es])
        have no0 : ¬ Ow ρw (wipe S.σ ws) D := fun z => (R0.owns z).2 hD
        obtain ⟨R1, k1⟩ := grow_step R0 k0 (grow_new (o := .lst []) R0.fh hD)
        have fD : T.F D = none := RT.fh.free hD
        refine ⟨fun i m H => ∃ (F : Hp) (ρ : En) (acc : List PD) (av : List V), Rel K ⟨F, ρ, wipe S.σ ws, H⟩ ∧ Kp S ⟨F, ρ, wipe S.σ ws, H⟩ ∧ Same T.F F ∧ F D = none ∧ H D = some (.lst av) ∧ RpA K F av acc ∧ ¬ Ow ρ (wipe S.σ ws) D ∧ (∀ j, j ∈ ws → ρ[j]? = some .un) ∧ acc.length ≤ i ∧ i ≤ items.length ∧ m = items.length - i ∧ compD ws g tt te (items.drop i) acc ρ = some (accf, ρf),
          ⟨_, T.F, ρw, [], [], R1, k1, Same.refl _, fD, upd_same, .nil, no0, u0, Nat.le_refl _, Nat.zero_le _, rfl, by rw [List.drop_zero]; exact ec⟩, ?_⟩
        rintro i m H ⟨F, ρ, acc, av, RU, kU, sU, fU, hU, rU, nU, uU, hlen, hle, rfl, eU⟩
        obtain ⟨go, stop⟩ := hJ i F H sU RU.fh
        by_cases hlt : i < items.length
        · obtain ⟨g1, g2⟩ := go _ (List.getElem?_eq_getElem hlt)
          rw [List.drop_eq_getElem_cons hlt] at eU
          simp only [compD] at eU
          cases e3 : g items[i] ρ with
          | none => simp only [e3] at eU; cases eU
          | some ρ2 =>
            simp only [e3] at eU
            refine .inr ⟨g1, fun H' => ∃ (F : Hp) (ρ : En) (acc : List PD) (av : List V), Rel K ⟨F, ρ, wipe S.σ ws, H'⟩ ∧ Kp S ⟨F, ρ, wipe S.σ ws, H'⟩ ∧ Same T.F F ∧ F D = none ∧ H' D = some (.lst av) ∧ RpA K F av acc ∧ ¬ Ow ρ (wipe S.σ ws) D ∧ (∀ j, j ∈ ws → ρ[j]? = some .un) ∧ acc.length ≤ i + 1 ∧ compD ws g tt te (items.drop (i + 1)) acc ρ = some (accf, ρf),
              fun H' ⟨F, ρ, acc, av, a1, a2, a3, a4, a5, a6, a7, a8, a9, a10⟩ => ⟨items.length - (i + 1), by omega, F, ρ, acc, av, a1, a2, a3, a4, a5, a6, a7, a8, a9, by omega, rfl, a10⟩, fun x H' y => ?_⟩
            obtain ⟨F', gr, rx⟩ := g2 x H' y
            have RU1 := RU.grow gr
            have kU1 := kU.trans (Kp.grow gr)
            have hU1 : H' D = some (.lst av) := gr.hh _ _ hU
            have fU1 : F' D = none := gr.nof D (by rw [show H D = _ from hU]; simp) fU
            have rU1 : RpA K F' av acc := rU.mono gr.ff
            refine ⟨⟨F', ρ, wipe S.σ ws, H'⟩, items[i], ρ2, rfl, rfl, RU1, rx, e3, fun T2 r2 off2 R2 k2 => ?_⟩
            have lT2 : T2.σ.length = S.σ.length := off2.2.1.trans (wipe_length _ _)
            have oT2 : ∀ j, j ∉ ws → T2.σ[j]? = S.σ[j]? := fun j hj => by
              rw [off2.2.2 j (fun z => hj (hsub j z))]
              show (wipe S.σ ws)[j]? = _
              rw [wipe_get, if_neg hj]
            refine ⟨wipe_eq lT2 oT2, ?_⟩
            cases e4 : tt ρ2 with
            | none => simp only [e4] at eU; cases eU
            | some p =>
              obtain ⟨b, ρ3⟩ := p
              refine ⟨T2, b, ρ3, rfl, rfl, R2, by rw [r2]; exact e4, fun T3 s3 r3 R3 k3 => ?_⟩
              have k13 : Kp ⟨F', ρ, wipe S.σ ws, H'⟩ T3 := k2.trans k3
              have hne : (⟨F', ρ, wipe S.σ ws, H'⟩ : Sx).H D ≠ none := by rw [show (⟨F', ρ, wipe S.σ ws, H'⟩ : Sx).H D = _ from hU1]; simp
              have n3 : ¬ Owns T3 D := k13.nown hne nU
              have h3 : T3.H D = some (.lst av) := k13.keep D _ hU1 nU
              have f3 : T3.F D = none := k13.nof D hne fU1 nU
              cases b with
              | false =>
                simp only [e4] at eU
                refine L2.iteF ?_
                cases e5 : wipeE ws ρ3 with
                | none => simp only [e5] at eU; cases eU
                | some ρ4 =>
                  simp only [e5] at eU
                  obtain ⟨R4, k4, n4, u4⟩ := wb T3 ρ4 R3 (kU1.trans k13) (by rw [r3]; exact e5) (by rw [s3]; exact lT2) (fun j hj => by rw [s3]; exact oT2 j hj)
                  exact ⟨T3.F, ρ4, acc, av, R4, k4, (sU.trans gr.ff).trans k13.ff, f3, h3, rU1.mono k13.ff, n4 (by rw [h3]; simp) n3, u4, by omega, eU⟩
              | true =>
                simp only [e4] at eU
                refine L2.iteT ?_
                cases e5 : eFrz te ρ3 with
                | none => simp only [e5] at eU; cases eU
                | some p =>
                  obtain ⟨d, ρ5⟩ := p
                  simp only [e5] at eU
                  obtain ⟨h, ρ4, e6, e7⟩ := bnd_some e5
                  refine ⟨T3, h, ρ4, s3, rfl, R3, by rw [r3]; exact e6, fun v ⟨F4, ρ4', σ4, H4⟩ s4 r4 R4 k4 q4 => ?_⟩
                  simp only at s4 r4; subst r4
                  have h3n : T3.H D ≠ none := by rw [h3]; simp
                  have n4 : ¬ Ow ρ4' σ4 D := k4.nown h3n n3
                  have h4 : H4 D = some (.lst av) := k4.keep D _ h3 n3
                  have f4 : F4 D = none := k4.nof D h3n f3 n3
                  obtain ⟨F5, R5, k5, r5, s5, nd, no⟩ := frz_ok R4 ((kU1.trans k13).trans k4) (q4.back (kU1.trans k13)) e7
                  have f5 : F5 D = none := by
                    by_cases z : F5 D = F4 D
                    · rw [z]; exact f4
                    · exfalso
                      obtain ⟨z1, z2⟩ := nd D z
                      rcases z2 with z2 | z2
                      · cases h with
                        | dat d => cases z2
                        | slot d => cases z2
                        | frL ds => obtain ⟨a, vs, e, n, _⟩ := q4; rw [z1] at e; cases e; exact h3n n
                        | frD ds => obtain ⟨a, vs, e, n, _⟩ := q4; rw [z1] at e; cases e; exact h3n n
                      · exact n4 z2
                  have n5 : ¬ Ow ρ5 σ4 D := fun z => n4 (no D z)
                  cases e8 : wipeE ws ρ5 with
                  | none => simp only [e8] at eU; cases eU
                  | some ρ6 =>
                    simp only [e8] at eU
                    obtain ⟨R6, k6, n6, u6⟩ := wb ⟨F5, ρ5, σ4, H4⟩ ρ6 R5 k5 e8 (by show σ4.length = _; rw [s4]; exact lT2) (fun j hj => by show σ4[j]? = _; rw [s4]; exact oT2 j hj)
                    have h4n : H4 D ≠ none := by rw [h4]; simp
                    have n6' := n6 h4n n5
                    obtain ⟨R7, k7⟩ := upd_rel (o := .lst (av ++ [v])) R6 k6 nD f5 h4n n6'
                    have la : av.length = acc.length := rU.len
                    exact ⟨av, h4, by omega, F5, ρ6, acc ++ [d], av ++ [v], R7, k7, (((sU.trans gr.ff).trans k13.ff).trans k4.ff).trans s5, f5, upd_same, (((rU1.mono k13.ff).mono k4.ff).mono s5).app (.cons r5 .nil), n6', u6, by rw [List.length_append]; simp; omega, eU⟩
        · rw [List.drop_eq_nil_of_le (by omega)] at eU
          simp only [compD] at eU; cases eU
          refine .inl ⟨stop (by omega), ?_⟩
          obtain ⟨rl, rn, rv⟩ := restE_spec ws T.ρ ρf
          have core : ∀ S0, Kp S0 ⟨F, ρf, wipe S.σ ws, H⟩ → Rel K ⟨F, restE ws T.ρ ρf, S.σ, H⟩ ∧ Kp S0 ⟨F, restE ws T.ρ ρf, S.σ, H⟩ := fun S0 k0 => by
            refine relink (ws := ws) RU k0 rl (wipe_length _ _).symm (fun j hj => ⟨rn j hj, ?_⟩) (fun j hj s o z1 z2 => ?_) fun j hj ds e => ?_
            · rw [wipe_get, if_neg hj]
            · have hlt' : j < ρf.length := by
                have := (List.getElem?_eq_some_iff.mp (uU j hj)).1
                exact this
              rw [rv j hj hlt'] at z1
              obtain ⟨_, s', e2, q2⟩ := wv j hj
              rw [e2] at z1
              cases z1
              have so := RT.slot j _ o e2 (by rw [es]; exact z2)
              refine ⟨q2, ?_⟩
              cases s' with
              | un => trivial
              | val d => obtain ⟨v, e, r⟩ := so; exact ⟨v, e, r.mono sU⟩
              | own d => cases q2
              | bor d => cases q2
              | odk d => cases q2
              | scr d => obtain ⟨v, e, r⟩ := so; exact ⟨v, e, sU.seq r⟩
            · rw [uU j hj] at e; cases e
          obtain ⟨Rf, kf⟩ := core S kU
          have nf : ¬ Ow (restE ws T.ρ ρf) S.σ D := fun z => ((core _ (Kp.refl _)).2.own D z).elim nU (by show H D ≠ none; rw [hU]; simp)
          exact q (.ref D) ⟨F, restE ws T.ρ ρf, S.σ, H⟩ rfl rfl Rf kf ⟨D, av, rfl, nD, fU, hU, rU, nf⟩
  · rw [if_neg hsz] at e; cases e
section
variable {X : Cx} {elt tg iter : Expr} {ifs : List Expr} {scope : Scope} {own : List (Str × Nat)} {pos : Pos}
theorem t_yes : PTs X [] (tDT X.K (pur true)) := ⟨fun pins s σ H Q I ⟨S, b, ρ', e1, e2, R, e, q⟩ => by
  subst e1; subst e2
  obtain ⟨rfl, rfl⟩ := pur_some e
  exact pts_nil.run pins s _ _ Q I (q S rfl rfl R (Kp.refl S))⟩
theorem t_one {c : Expr} {f : M Bool} (h : PT X c (tDT X.K f)) : PTs X [c] (tDT X.K f) := pts_one h
theorem d_comp {vs : List Nat} {fi : M (List PD)} {g : Gt} {tt : M Bool} {te : M Hd} (hc : X.calm = true) (hN : X.N.Nodup) (hi : PI X tg iter (tDI X.K fi)) (ok : BlkOk X.N X.env.scope scope own) (hsub : ∀ i ∈ vs, i ∈ own.map (·.2))
    (hg : ∀ (s : Shared) (H : Hp) (C : Addr) (cl : List (Str × Addr)) (fp : List Addr), PG (X.blk s H scope (compEnvC scope cl C X.env) fp) tg (tGD X.K vs g))
    (ht : ∀ (s : Shared) (H : Hp) (C : Addr) (cl : List (Str × Addr)) (fp : List Addr), PTs (X.blk s H scope (compEnvC scope cl C X.env) fp) ifs (tDT X.K tt))
    (he : ∀ (s : Shared) (H : Hp) (C : Addr) (cl : List (Str × Addr)) (fp : List Addr), PE (X.blk s H scope (compEnvC scope cl C X.env) fp) elt (tDE X.K te)) (hs : ∀ x, foldedSetIterable iter X.env x = pure x := by intro _; rfl) :
    PE X (.ListComp elt [⟨tg, iter, ifs, 0⟩] scope pos) (tDE X.K (eComp (own.map (·.2)) fi g tt te)) := pe_weak (pe_lc hc hN hi ok hg ht he hs) fun _ _ _ h => comp_red hsub h
theorem s_setLc {i : Nat} {y : Str} {py spos : Pos} {vs : List Nat} {fi : M (List PD)} {g : Gt} {tt : M Bool} {te : M Hd} (hc : X.calm = true) (hN : X.N.Nodup) (hy : X.N[i]? = some y) (hyl : X.env.scope.names.lookup y = some .local)
    (hsw : swapsWith (.ListComp elt [⟨tg, iter, ifs, 0⟩] scope pos) (some (.Name y py)) spos.line X.env = pure true) (hi : PI X tg iter (tDI X.K fi)) (ok : BlkOk X.N X.env.scope scope own) (hsub : ∀ i ∈ vs, i ∈ own.map (·.2))
    (hg : ∀ (s : Shared) (H : Hp) (C : Addr) (cl : List (Str × Addr)) (fp : List Addr), PG (X.blk s H scope (compEnvC scope cl C X.env) fp) tg (tGD X.K vs g))
    (ht : ∀ (s : Shared) (H : Hp) (C : Addr) (cl : List (Str × Addr)) (fp : List Addr), PTs (X.blk s H scope (compEnvC scope cl C X.env) fp) ifs (tDT X.K tt))
    (he : ∀ (s : Shared) (H : Hp) (C : Addr) (cl : List (Str × Addr)) (fp : List Addr), PE (X.blk s H scope (compEnvC scope cl C X.env) fp) elt (tDE X.K te)) (hs : ∀ x, foldedSetIterable iter X.env x = pure x := by intro _; rfl) :
    PS X (.Assign [.Name y py] (.ListComp elt [⟨tg, iter, ifs, 0⟩] scope pos) spos) (tDS X.K (sSet i (eComp (own.map (·.2)) fi g tt te))) :=
  s_setG (ps_setLc hc hN hy hyl hsw hi ok hg ht he hs) fun _ _ _ h => comp_red hsub h
end
end DL
set_option Elab.async false
set_option linter.all false
set_option maxRecDepth 100000
/-! DL: defs by data; the law's end. Nothing is raised; no repr is under way (guards). -/
namespace DL
open PySem PySem.Spec PyProof.Rows L2

structure FnG (P : Program) (w : World) (K : PySem.W.Frag) (mg : Str → Option Value) (base : Heap) (k : Nat) (f : Addr) (fd : FuncData) (ps : List Str) (sp : List V → Hp → VK → Prop) : Prop where
  len : ∀ vs H Q, sp vs H Q → vs.length = ps.length
  run : ∀ (A : Around) (outer : List Env) (s : Shared) (H : Hp) (args : Args) (us : List Value) (vs : List V) (Q : VK),
    Room k A ∧ A.guards = some [] → Env0 P w K mg base A outer s H → BindsTo s fd args (ps.zip us) → Vals vs us → sp vs H Q → codeAny (model P w) A (.call (.ref f) args) (CR CX0 outer P w H s Q E0) s
theorem FnG.mono {P : Program} {w : World} {K : PySem.W.Frag} {mg : Str → Option Value} {base : Heap} {j k : Nat} {f : Addr} {fd : FuncData} {ps : List Str} {sp : List V → Hp → VK → Prop} (G : FnG P w K mg base j f fd ps sp) (h : j ≤ k) : FnG P w K mg base k f fd ps sp :=
  ⟨G.len, fun A o s H a us vs Q r => G.run A o s H a us vs Q ⟨r.1.mono h, r.2⟩⟩
/-- a def's body, entered -/
theorem FnG.of {P : Program} {w : World} {K : PySem.W.Frag} {mg : Str → Option Value} {base : Heap} {k : Nat} {f : Addr} {fd : FuncData} {x qual : Str} {st : Stmt} {N ps : List Str} {sp : List V → Hp → VK → Prop} (F : Fun K x qual st f fd) (S : FnScope N ps (defScope st))
    (len : ∀ vs H Q, sp vs H Q → vs.length = ps.length)
    (body : ∀ (cdv : Value) (A : Around) (outer : List Env) (s : Shared) (H : Hp) (vs : List V) (Q : VK), Room k (A.deeper (envOfC qual (defScope st) s.heap.objs.size f cdv)) → A.guards = some [] → sp vs H Q →
      ∃ t, PSs (cxOf CX0 P w K mg base N qual (defScope st) f cdv A outer s H E0).nox (defBody st) t ∧ t { nx := fun _ H' => Q .non H', rt := Q } (L2.start N vs) H) : FnG P w K mg base (k + 1) f fd ps sp := by
  obtain ⟨oc, od, kV, doc, pm, an, cdv, ct, osl, rfl, lk, hcd⟩ := F.ex
  refine ⟨len, fun A outer s H args us vs Q hr e0 hb r hsp => ?_⟩
  have keep : ∀ b o, base.get? b = some o → s.heap.get? b = some o := fun b o e => (e0.bs b o e).1
  have KX := e0.mod.kin.keeps keep
  have lim := e0.mod.nolimit.keeps keep
  refine codeAny_call_function hr.1.depth (KX _ _ lk) rfl S.co S.gen rfl (PySem.W.codeRec_of KX hcd) (hb _ _ _ _ ?_)
  refine wpAny_newFunctionEnv_cells S.kind (fun y hy => ?_) fun env he s1 st1 => ?_
  · obtain ⟨n, v⟩ := y
    exact (S.par n (List.of_mem_zip hy).1).elim .inl fun q => .inr ⟨q, PySem.W.cellsFrom_some _ _ _ (.inl q)⟩
  · subst he
    refine ⟨lim.keeps st1.toInCall.keep, codeAny_func ?_⟩
    obtain ⟨t, ht, hq⟩ := body cdv A outer s H vs Q (hr.1.deeper _) hr.2 hsp
    have I := inv_start (CX := CX0) (E := E0) S hr.1.hd e0 (len _ _ _ hsp) r st1
    refine wpAny_mono (ht.nox.run [] s1 (L2.start N vs) H _ I hq) (fun fl s' hs => ?_) fun e s' hs => hs
    cases fl with
    | ret u =>
      obtain ⟨v, σ', H', J, rv, q⟩ := hs
      exact ⟨v, H', J.os, J.bare, J.base, J.hok, rv, q⟩
    | next =>
      obtain ⟨σ', H', J, q⟩ := hs
      exact ⟨V.non, H', J.os, J.bare, J.base, J.hok, rfl, q⟩
    | brk => obtain ⟨_, _, _, q⟩ := hs; exact q.elim
    | cont => obtain ⟨_, _, _, q⟩ := hs; exact q.elim
section
variable {X : Cx} {k : Nat} {f : Addr} {fd : FuncData} {ps : List Str} {sp : List V → Hp → VK → Prop} {x : Str} {p pos : Pos} {e : Expr} {es : List Expr} {t : TA}
theorem runG {pins : List (Addr × Obj)} {σ : St} {H : Hp} {s : Shared} {Q : VK} {us : List Value} {vs : List V} (G : FnG X.prog X.w X.K X.mg X.base k f fd ps sp) (hr : Room k X.A ∧ X.A.guards = some []) (hb : Binds X.K fd ps []) (I : Inv X pins σ H s) (r : Vals vs us) (h : sp vs H Q) :
    wpAny (model X.prog X.w) X.A (call (.ref f) us) (EP X pins σ Q) X.xe s := by
  have hl : us.length = ps.length := r.length.symm.trans (G.len _ _ _ h)
  have bt := hb s us I.kIn (by rw [List.append_nil]; exact hl)
  rw [List.append_nil] at bt
  refine wpAny_call (codeAny_mono (G.run X.A X.stack s H ⟨us, []⟩ us vs Q hr I.env0 bt r h) fun res s' hq => ?_)
  cases res with
  | error _ => exact False.elim hq
  | ok fl => cases fl <;> first | exact I.after hq | exact False.elim hq
theorem pe_callG (G : FnG X.prog X.w X.K X.mg X.base k f fd ps sp) (hr : Room k X.A ∧ X.A.guards = some []) (hg : Gl X x) (hm : X.mg x = some (.ref f)) (hk : PySem.W.keepIn X.K (.ref f) = true) (hb : Binds X.K fd ps []) (ha : PA X (e :: es) t) (hdb : (x == ("__debug__" : Str)) = false := by decide)
    (he : starEach (e :: es) X.env = (false, eval e X.env) :: starEach es X.env := by rfl) (hpl : (backTo pos (starEach es X.env)).any (·.1) = false := by rfl) : PE X (.Call (.Name x p) (e :: es) [] pos) (fun σ H Q => t σ H fun vs H1 => sp vs H1 Q) :=
  ⟨fun pins s σ H Q I h => wpAny_Call_Name_kw (ld_glob I hg hm (PySem.W.callWith_K (h₀ := X.base) I.ok.mod.kin hk (thn (ha.run pos pins s σ H _ I h) fun us s1 ⟨vs, H1, I1, r, q⟩ => ⟨I1.kIn, runG G hr hb I1 r q⟩) he hpl) hdb)⟩
end

/-! ### promises by data -/
/-- what a def hands back: a datum or a new list or dict -/
def spD (K : PySem.W.Frag) (n : Nat) (g : List PD → Option Hd) : List V → Hp → VK → Prop := fun vs H Q => ∃ F ds h, vs.length = n ∧ Same F H ∧ RpA K F vs ds ∧ g ds = some h ∧ ∀ v F' H', Grow F H F' H' → GvOk K F' H H' v h → Q v H'
/-- its first argument is a list that it may change -/
def spB (K : PySem.W.Frag) (n : Nat) (g : List PD → List PD → Option (Hd × List PD)) : List V → Hp → VK → Prop := fun vs H Q => ∃ F a cv rs cs ds h cs', vs = .ref a :: rs ∧ rs.length = n ∧ Same F H ∧ F a = none ∧ H a = some (.lst cv) ∧ RpA K F cv cs ∧ RpA K F rs ds ∧ g cs ds = some (h, cs') ∧
  ∀ v F' H' cv', Grow F H F' (upd H' a (.lst cv)) → H' a = some (.lst cv') → RpA K F' cv' cs' → F' a = none → GvOk K F' H H' v h → Q v H'
/-- a def run: its slots, its body -/
def runD (n : Nat) (f : M Out) (ds : List PD) : Option Hd := match f (ds.map SV.val ++ List.replicate (n - ds.length) SV.un) with
  | some (.rt h, _) => some h
  | some (.nx, _) => some (.dat .none)
  | _ => none
def runB (n : Nat) (f : M Out) (cs ds : List PD) : Option (Hd × List PD) := match f (SV.bor cs :: (ds.map SV.val ++ List.replicate (n - 1 - ds.length) SV.un)) with
  | some (.rt h, ρ) => match (ρ : En)[0]? with
    | some (SV.bor cs') => some (h, cs')
    | _ => none
  | some (.nx, ρ) => match (ρ : En)[0]? with
    | some (SV.bor cs') => some (.dat .none, cs')
    | _ => none
  | _ => none
theorem start_slot {K : PySem.W.Frag} {F H : Hp} {n : Nat} : ∀ {vs : List V} {ds : List PD}, RpA K F vs ds → ∀ (m : Nat) (i : Nat) (s : SV) (o : Option V), (ds.map SV.val ++ List.replicate m SV.un)[i]? = some s → (vs.map some ++ List.replicate m none)[i]? = some o → SlotOk K F H s o ∧ s.isO = false
  | _, _, .nil, m, i, s, o, e1, e2 => by
    simp only [List.map_nil, List.nil_append] at e1 e2
    have := List.eq_of_mem_replicate (List.mem_of_getElem? e1)
    subst this
    exact ⟨trivial, rfl⟩
  | _, _, .cons h r, m, 0, s, o, e1, e2 => by
    simp at e1 e2
    subst e1; subst e2
    exact ⟨⟨_, rfl, h⟩, rfl⟩
  | _, _, .cons h r, m, i + 1, s, o, e1, e2 => start_slot (n := n) r m i s o (by simpa using e1) (by simpa using e2)
theorem start_rel {K : PySem.W.Frag} {F H : Hp} {vs : List V} {ds : List PD} {N : List Str} (fh : Same F H) (r : RpA K F vs ds) : Rel K ⟨F, ds.map SV.val ++ List.replicate (N.length - ds.length) SV.un, L2.start N vs, H⟩ ∧ ∀ a, ¬ Ow (ds.map SV.val ++ List.replicate (N.length - ds.length) SV.un) (L2.start N vs) a := by
  have hl := r.len
  have sl := start_slot (K := K) (F := F) (H := H) (n := 0) r (N.length - ds.length)
  have es : L2.start N vs = vs.map some ++ List.replicate (N.length - ds.length) none := by unfold L2.start; rw [hl]
  rw [es]
  have ll : (ds.map SV.val ++ List.replicate (N.length - ds.length) SV.un).length = (vs.map some ++ List.replicate (N.length - ds.length) (none : Option V)).length := by
    simp only [List.length_append, List.length_map, List.length_replicate, hl]
  have nO : ∀ (i : Nat) s, (ds.map SV.val ++ List.replicate (N.length - ds.length) SV.un)[i]? = some s → s.isO = false := fun i s e => by
    have hi := (List.getElem?_eq_some_iff.mp e).1
    rw [ll] at hi
    exact (sl i s _ e (List.getElem?_eq_getElem hi)).2
  refine ⟨⟨ll, fh, fun i s o e1 e2 => (sl i s o e1 e2).1, fun i j s t a e1 q1 => ?_⟩, fun a h => ?_⟩
  · rw [nO i s e1] at q1; cases q1
  · obtain ⟨i, s, e, q, _⟩ := h
    rw [nO i s e] at q; cases q
theorem gv_of {K : PySem.W.Frag} {S T : Sx} {v : V} {h : Hd} (no : ∀ a, ¬ Owns S a) (q : RtOk K S T v h) : GvOk K T.F S.H T.H v h := by
  cases h with
  | dat d => exact q
  | slot i => exact q
  | frL ds => obtain ⟨a, vs, e, n, f, h, r, _⟩ := q; exact ⟨a, vs, e, n.elim (fun z => absurd z (no a)) id, f, h, r⟩
  | frD ds => obtain ⟨a, vs, e, n, f, h, r, _⟩ := q; exact ⟨a, vs, e, n.elim (fun z => absurd z (no a)) id, f, h, r⟩
theorem fnD {P : Program} {w : World} {K : PySem.W.Frag} {mg : Str → Option Value} {base : Heap} {k : Nat} {f : Addr} {fd : FuncData} {x qual : Str} {st : Stmt} {N ps : List Str} {b : M Out} (F : Fun K x qual st f fd) (S : FnScope N ps (defScope st))
    (body : ∀ (cdv : Value) (A : Around) (outer : List Env) (s : Shared) (H : Hp), Room k (A.deeper (envOfC qual (defScope st) s.heap.objs.size f cdv)) ∧ (A.deeper (envOfC qual (defScope st) s.heap.objs.size f cdv)).guards = some [] → PSs (cxOf CX0 P w K mg base N qual (defScope st) f cdv A outer s H E0).nox (defBody st) (tDS K b)) :
    FnG P w K mg base (k + 1) f fd ps (spD K ps.length (runD N.length b)) := by
  refine FnG.of F S (fun vs H Q ⟨_, _, _, h, _⟩ => h) fun cdv A outer s H vs Q hr hg ⟨F, ds, h, hn, fh, r, e, q⟩ => ⟨_, body cdv A outer s H ⟨hr, hg⟩, ?_⟩
  obtain ⟨R, no⟩ := start_rel (N := N) fh r
  unfold runD at e
  cases eb : b (ds.map SV.val ++ List.replicate (N.length - ds.length) SV.un) with
  | none => rw [eb] at e; cases e
  | some p =>
    obtain ⟨o, ρ'⟩ := p
    have gr : ∀ T : Sx, Rel K T → Kp ⟨F, ds.map SV.val ++ List.replicate (N.length - ds.length) SV.un, L2.start N vs, H⟩ T → Grow F H T.F T.H := fun T RT k => ⟨k.ff, fun c o e => k.keep c o e (no c), RT.fh, fun c z1 z2 => k.nof c z1 z2 (no c)⟩
    refine ⟨⟨F, _, L2.start N vs, H⟩, o, ρ', rfl, rfl, R, eb, ?_⟩
    rw [eb] at e
    cases o with
    | nx =>
      cases e
      exact fun T _ RT kT => q .non T.F T.H (gr T RT kT) .non
    | rt h' =>
      cases e
      exact fun v T _ RT kT hv => q v T.F T.H (gr T RT kT) (gv_of no hv)
    | bk => cases e
    | ct => cases e
end DL
set_option Elab.async false
set_option linter.all false
set_option maxRecDepth 100000
/-! DL: calls by data, a slot's own list changed, the law's end. -/
namespace DL
open PySem PySem.Spec PyProof.Rows L2

/-! ### a slot's own list changed -/
def SV.put (ds : List PD) : SV → SV
  | .bor _ => .bor ds
  | _ => .own ds
def SV.lst : SV → Option (List PD)
  | .own ds => some ds
  | .bor ds => some ds
  | _ => none
theorem SV.lst_O {s : SV} {ds : List PD} (h : s.lst = some ds) : s.isO = true := by cases s <;> first | rfl | cases h
theorem put_O (s : SV) (ds : List PD) : (s.put ds).isO = true := by cases s <;> rfl
theorem SV.lst_ok {K : PySem.W.Frag} {F H : Hp} {s : SV} {ds : List PD} {o : Option V} (h : s.lst = some ds) (q : SlotOk K F H s o) : LOk K F H o ds := by
  cases s with
  | own d => cases h; exact q
  | bor d => cases h; exact q
  | un => cases h
  | val d => cases h
  | odk d => cases h
  | scr d => cases h
theorem put_ok {K : PySem.W.Frag} {F H : Hp} {s : SV} {ds : List PD} {o : Option V} (q : LOk K F H o ds) : SlotOk K F H (s.put ds) o := by cases s <;> exact q
theorem own_upd {K : PySem.W.Frag} {S0 S : Sx} {i : Nat} {s : SV} {a : Addr} {cs cs' : List PD} {cv' : List V} (R : Rel K S) (k : Kp S0 S) (hs : S.ρ[i]? = some s) (hl : s.lst = some cs) (hv : S.σ[i]? = some (some (.ref a))) (r : RpA K S.F cv' cs') :
    Rel K ⟨S.F, S.ρ.set i (s.put cs'), S.σ, upd S.H a (.lst cv')⟩ ∧ Kp S0 ⟨S.F, S.ρ.set i (s.put cs'), S.σ, upd S.H a (.lst cv')⟩ := by
  have hO := SV.lst_O hl
  have hw : Owns S a := ⟨i, s, hs, hO, hv⟩
  obtain ⟨fa, ha⟩ := R.owns hw
  have hi : i < S.ρ.length := (List.getElem?_eq_some_iff.mp hs).1
  have back : ∀ (j : Nat) t, (S.ρ.set i (s.put cs'))[j]? = some t → t.isO = true → ∃ t', S.ρ[j]? = some t' ∧ t'.isO = true := fun j t e q => by
    by_cases hij : i = j
    · subst hij; exact ⟨s, hs, hO⟩
    · rw [List.getElem?_set_ne hij] at e; exact ⟨t, e, q⟩
  refine ⟨⟨by show (S.ρ.set i _).length = _; rw [List.length_set]; exact R.len, fun b x e => ?_, fun j t o e1 e2 => ?_, fun j l t u b e1 q1 e2 q2 z1 z2 => ?_⟩, ⟨k.ff, fun b x e nb => ?_, fun b hb => ?_, k.nof, fun b h => ?_, fun j ds e => ?_⟩⟩
  · show upd S.H a _ b = some x
    rw [upd_ne (ne_of_none e fa)]
    exact R.fh b x e
  · have e1' : (S.ρ.set i (s.put cs'))[j]? = some t := e1
    by_cases hij : i = j
    · subst hij
      rw [List.getElem?_set_self hi] at e1'
      cases e1'
      have e2' : S.σ[i]? = some o := e2
      rw [hv] at e2'; cases e2'
      exact put_ok ⟨a, cv', rfl, fa, upd_same, r⟩
    · rw [List.getElem?_set_ne hij] at e1'
      have so := R.slot j t o e1' e2
      have na : ∀ b, t.isO = true → o = some (.ref b) → b ≠ a := fun b q z e => hij (R.dist i j s t a hs hO e1' q hv (by have e2' : S.σ[j]? = some o := e2; rw [e2', z, e]))
      cases t with
      | un => trivial
      | val d => exact so
      | scr d => exact so
      | own ds => obtain ⟨b, vs, e, g, h, r⟩ := so; exact ⟨b, vs, e, g, (upd_ne (na b rfl e)).trans h, r⟩
      | bor ds => obtain ⟨b, vs, e, g, h, r⟩ := so; exact ⟨b, vs, e, g, (upd_ne (na b rfl e)).trans h, r⟩
      | odk ds => obtain ⟨b, vs, e, g, h, r⟩ := so; exact ⟨b, vs, e, g, (upd_ne (na b rfl e)).trans h, r⟩
  · obtain ⟨t', f1, p1⟩ := back j t e1 q1
    obtain ⟨u', f2, p2⟩ := back l u e2 q2
    exact R.dist j l t' u' b f1 p1 f2 p2 z1 z2
  · have : b ≠ a := fun z => by
      subst z
      rcases k.own b hw with q | q
      · exact nb q
      · rw [q] at e; cases e
    show upd S.H a _ b = some x
    rw [upd_ne this]
    exact k.keep b x e nb
  · show upd S.H a _ b ≠ none
    by_cases z : b = a
    · subst z; rw [upd_same]; simp
    · rw [upd_ne z]; exact k.there b hb
  · obtain ⟨j, t, e, q, z⟩ := h
    obtain ⟨t', f1, p1⟩ := back j t e q
    exact k.own b ⟨j, t', f1, p1, z⟩
  · obtain ⟨⟨d', e'⟩, z⟩ := k.bor j ds e
    refine ⟨?_, z⟩
    by_cases hij : i = j
    · subst hij
      rw [hs] at e'; cases e'
      exact ⟨cs', List.getElem?_set_self hi⟩
    · exact ⟨d', (List.getElem?_set_ne hij).trans e'⟩
theorem ow_put {ρ : En} {σ : St} {i : Nat} {s : SV} {ds cs : List PD} {b : Addr} (hs : ρ[i]? = some s) (hl : s.lst = some cs) (h : Ow (ρ.set i (s.put ds)) σ b) : Ow ρ σ b := by
  obtain ⟨j, t, e, q, z⟩ := h
  by_cases hij : i = j
  · subst hij; exact ⟨i, s, hs, SV.lst_O hl, z⟩
  · rw [List.getElem?_set_ne hij] at e; exact ⟨j, t, e, q, z⟩

/-! ### calls -/
def eCall (n : Nat) (g : List PD → Option Hd) (fa : M (List Hd)) : M Hd := bnd fa fun hs => bnd (frzA hs) fun ds ρ => if ds.length = n then match g ds with
  | some h => some (h, ρ)
  | none => none else none
/-- the list in a slot -/
def slotL (i : Nat) : M (List PD) := fun ρ => match ρ[i]? with
  | some s => match s.lst with
    | some cs => some (cs, ρ)
    | none => none
  | none => none
theorem slotL_ok {K : PySem.W.Frag} {S : Sx} {i : Nat} {cs : List PD} {ρ' : En} (R : Rel K S) (h : slotL i S.ρ = some (cs, ρ')) : ρ' = S.ρ ∧ ∃ s a, S.ρ[i]? = some s ∧ s.lst = some cs ∧ S.σ[i]? = some (some (.ref a)) ∧ LOk K S.F S.H (some (.ref a)) cs := by
  unfold slotL at h
  cases e : S.ρ[i]? with
  | none => simp only [e] at h; cases h
  | some s =>
    simp only [e] at h
    cases el : s.lst with
    | none => simp only [el] at h; cases h
    | some d =>
      simp only [el] at h; cases h
      obtain ⟨o, ho, so⟩ := R.at e
      have q := SV.lst_ok el so
      obtain ⟨a, cv, rfl, r⟩ := id q
      exact ⟨rfl, s, a, rfl, el, ho, q⟩
def eCallB (n : Nat) (g : List PD → List PD → Option (Hd × List PD)) (i : Nat) (fa : M (List Hd)) : M Hd := bnd (slotL i) fun _ => bnd fa fun hs => bnd (frzA hs) fun ds ρ => if ds.length = n then match ρ[i]? with
  | some s => match s.lst with
    | some cs => match g cs ds with
      | some (h, cs') => some (h, ρ.set i (s.put cs'))
      | none => none
    | none => none
  | none => none else none
section
variable {X : Cx} {k n : Nat} {f : Addr} {fd : FuncData} {ps : List Str} {x : Str} {p pos : Pos} {e : Expr} {es : List Expr}
theorem d_call {g : List PD → Option Hd} {fa : M (List Hd)} (G : FnG X.prog X.w X.K X.mg X.base k f fd ps (spD X.K n g)) (hr : Room k X.A ∧ X.A.guards = some []) (hg : Gl X x) (hm : X.mg x = some (.ref f)) (hk : PySem.W.keepIn X.K (.ref f) = true) (hb : Binds X.K fd ps []) (ha : PA X (e :: es) (tDA X.K fa)) (hdb : (x == ("__debug__" : Str)) = false := by decide)
    (he : starEach (e :: es) X.env = (false, eval e X.env) :: starEach es X.env := by rfl) (hpl : (backTo pos (starEach es X.env)).any (·.1) = false := by rfl) : PE X (.Call (.Name x p) (e :: es) [] pos) (tDE X.K (eCall n g fa)) := by
  refine pe_weak (pe_callG G hr hg hm hk hb ha hdb he hpl) fun σ H Q ⟨S, h, ρ', e1, e2, R, e, q⟩ => ?_
  subst e1; subst e2
  obtain ⟨hs, ρ1, ea, e⟩ := bnd_some e
  refine ⟨S, hs, ρ1, rfl, rfl, R, ea, fun vs ⟨F, ρ, σ, H⟩ es er RT kT hT => ?_⟩
  simp only at es er; subst er
  obtain ⟨ds, ρ2, eb, e⟩ := bnd_some e
  obtain ⟨F1, R1, k1, r1, s1⟩ := frzA_ok RT kT hT eb
  by_cases hn : ds.length = n
  · rw [if_pos hn] at e
    cases eg : g ds with
    | none => rw [eg] at e; cases e
    | some h' =>
      rw [eg] at e; cases e
      refine ⟨F1, ds, h, by rw [r1.len]; exact hn, R1.fh, r1, eg, fun v F' H' gr gv => ?_⟩
      obtain ⟨R2, k2⟩ := grow_step R1 k1 gr
      exact q v ⟨F', ρ', σ, H'⟩ es rfl R2 k2 (gv.hd R1 k1)
  · rw [if_neg hn] at e; cases e
theorem d_callM {g : List PD → List PD → Option (Hd × List PD)} {i : Nat} {fa : M (List Hd)} (G : FnG X.prog X.w X.K X.mg X.base k f fd ps (spB X.K n g)) (hr : Room k X.A ∧ X.A.guards = some []) (hg : Gl X x) (hm : X.mg x = some (.ref f)) (hk : PySem.W.keepIn X.K (.ref f) = true) (hb : Binds X.K fd ps []) (hv : PE X e (tVar i)) (ha : PA X es (tDA X.K fa)) (hdb : (x == ("__debug__" : Str)) = false := by decide)
    (he : starEach (e :: es) X.env = (false, eval e X.env) :: starEach es X.env := by rfl) (hpl : (backTo pos (starEach es X.env)).any (·.1) = false := by rfl) : PE X (.Call (.Name x p) (e :: es) [] pos) (tDE X.K (eCallB n g i fa)) := by
  refine pe_weak (pe_callG G hr hg hm hk hb (pa_cons hv ha he) hdb he hpl) fun σ H Q ⟨S, h, ρ', e1, e2, R, e, q⟩ => ?_
  subst e1; subst e2
  obtain ⟨c0, ρ0, e0, e⟩ := bnd_some e
  have er0 := (slotL_ok R e0).1
  subst er0
  obtain ⟨hs, ρ1, ea, e⟩ := bnd_some e
  obtain ⟨ds, ρ2, eb, e⟩ := bnd_some e
  by_cases hn : ds.length = n
  · rw [if_pos hn] at e
    cases es2 : ρ2[i]? with
    | none => simp only [es2] at e; cases e
    | some s =>
      simp only [es2] at e
      cases el : s.lst with
      | none => simp only [el] at e; cases e
      | some cs =>
        simp only [el] at e
        cases eg : g cs ds with
        | none => simp only [eg] at e; cases e
        | some p =>
          obtain ⟨h', cs'⟩ := p
          simp only [eg] at e; cases e
          -- the slot's value stands from the start
          have main : ∀ vs (T : Sx), T.σ = S.σ → T.ρ = ρ1 → Rel X.K T → Kp S T → HdsOk X.K S T vs hs → ∃ a, S.σ[i]? = some (some (.ref a)) ∧ spB X.K n g (.ref a :: vs) T.H Q := fun vs ⟨F, ρ, σ, H⟩ es er RT kT hT => by
            simp only at es er; subst er
            obtain ⟨F1, R1, k1, r1, s1⟩ := frzA_ok RT kT hT eb
            obtain ⟨o, ho, so⟩ := R1.at es2
            obtain ⟨a, cv, rfl, fa, hh, rc⟩ := SV.lst_ok el so
            refine ⟨a, by rw [← es]; exact ho, F1, a, cv, vs, cs, ds, h, cs', rfl, by rw [r1.len]; exact hn, R1.fh, fa, hh, rc, r1, eg, fun v F' H' cv' gr hc rc' fa' gv => ?_⟩
            obtain ⟨R2, k2⟩ := grow_step R1 k1 gr
            obtain ⟨R3, k3⟩ := own_upd R2 k2 es2 el ho rc'
            have eH : upd (upd H' a (.lst cv)) a (.lst cv') = H' := by
              rw [upd_upd]
              funext b
              by_cases z : b = a
              · subst z; rw [upd_same, hc]
              · rw [upd_ne z]
            have eH2 : upd (⟨F', ρ2, σ, upd H' a (.lst cv)⟩ : Sx).H a (.lst cv') = H' := eH
            rw [eH2] at R3 k3
            refine q v ⟨F', ρ2.set i (s.put cs'), σ, H'⟩ es rfl R3 k3 ?_
            have no : ∀ b, H b = none → ¬ Ow (ρ2.set i (s.put cs')) σ b := fun b nb z => (R1.owns (ow_put es2 el z)).2 nb
            cases h with
            | dat d => exact gv
            | slot j => exact gv.elim
            | frL d => obtain ⟨b, vs, e, n, f, h, r⟩ := gv; exact ⟨b, vs, e, k1.new n, f, h, r, no b n⟩
            | frD d => obtain ⟨b, vs, e, n, f, h, r⟩ := gv; exact ⟨b, vs, e, k1.new n, f, h, r, no b n⟩
          obtain ⟨_, s0, a0, hs0, hl0, hv0, _⟩ := slotL_ok R e0
          refine ⟨.ref a0, hv0, S, hs, ρ1, rfl, rfl, R, ea, fun vs T es er RT kT hT => ?_⟩
          obtain ⟨a, ha', q'⟩ := main vs T es er RT kT hT
          rw [hv0] at ha'; cases ha'
          exact q'
  · rw [if_neg hn] at e; cases e
end

/-! ### methods that change a slot's list -/
/-- a rule over values, told by data: u of the list and the arguments gives the answer and the new list -/
def MutOk (K : PySem.W.Frag) (r : V → List V → Hp → VK → Prop) (u : List PD → List PD → Option (PD × List PD)) : Prop :=
  ∀ (F H : Hp) (a : Addr) (cv vs : List V) (cs ds cs' : List PD) (d : PD) (Q : VK), Same F H → F a = none → H a = some (.lst cv) → RpA K F cv cs → RpA K F vs ds → u cs ds = some (d, cs') →
    (∀ v cv', RpA K F cv' cs' → Rp K F v d → Q v (upd H a (.lst cv'))) → r (.ref a) vs H Q
def eMut (u : List PD → List PD → Option (PD × List PD)) (i : Nat) (fa : M (List Hd)) : M Hd := bnd (slotL i) fun _ => bnd fa fun hs => bnd (frzA hs) fun ds ρ => match ρ[i]? with
  | some s => match s.lst with
    | some cs => match u cs ds with
      | some (d, cs') => some (.dat d, ρ.set i (s.put cs'))
      | none => none
    | none => none
  | none => none
theorem mut_red {K : PySem.W.Frag} {u : List PD → List PD → Option (PD × List PD)} {r : V → List V → Hp → VK → Prop} {i : Nat} {fa : M (List Hd)} {σ : St} {H : Hp} {Q : VK} (m : MutOk K r u) (h : tDE K (eMut u i fa) σ H Q) : tVar i σ H fun x H1 => tyV K "list" x H1 ∧ tDA K fa σ H1 fun xs H2 => r x xs H2 Q := by
  obtain ⟨S, h, ρ', e1, e2, R, e, q⟩ := h
  subst e1; subst e2
  obtain ⟨c0, ρ0, e0, e⟩ := bnd_some e
  obtain ⟨er0, s0, a0, hs0, hl0, hv0, ⟨_, cv0, ez, _, hh0, _⟩⟩ := slotL_ok R e0
  cases ez
  subst er0
  obtain ⟨hs, ρ1, ea, e⟩ := bnd_some e
  refine ⟨.ref a0, hv0, .inl ⟨rfl, _, .inl (.inl hh0)⟩, S, hs, ρ1, rfl, rfl, R, ea, fun vs ⟨F, ρ, σ, H⟩ es er RT kT hT => ?_⟩
  simp only at es er; subst er
  obtain ⟨ds, ρ2, eb, e⟩ := bnd_some e
  obtain ⟨F1, R1, k1, r1, s1⟩ := frzA_ok RT kT hT eb
  cases es2 : ρ2[i]? with
  | none => simp only [es2] at e; cases e
  | some s =>
    simp only [es2] at e
    cases el : s.lst with
    | none => simp only [el] at e; cases e
    | some cs =>
      simp only [el] at e
      cases eg : u cs ds with
      | none => simp only [eg] at e; cases e
      | some p =>
        obtain ⟨d, cs'⟩ := p
        simp only [eg] at e; cases e
        obtain ⟨o, ho, so⟩ := R1.at es2
        obtain ⟨a, cv, rfl, fa, hh, rc⟩ := SV.lst_ok el so
        have ho' : σ[i]? = some (some (.ref a)) := ho
        rw [es, hv0] at ho'; cases ho'
        refine m F1 H a0 cv vs cs ds cs' d Q R1.fh fa hh rc r1 eg fun v cv' rc' rd => ?_
        obtain ⟨R3, k3⟩ := own_upd R1 k1 es2 el ho rc'
        exact q v ⟨F1, ρ2.set i (s.put cs'), σ, upd H a0 (.lst cv')⟩ es rfl R3 k3 rd
section
variable {X : Cx} {o e : Expr} {es : List Expr} {name : Str} {apos cpos : Pos} {id : String} {r : V → List V → Hp → VK → Prop} {u : List PD → List PD → Option (PD × List PD)} {i : Nat}
theorem d_meth {fa : M (List Hd)} (slot : Slot "list" name id) (hty : typeOf (.builtin id) = pure (.type "method_descriptor")) (hm : MtR X id r) (m : MutOk X.K r u) (ho : PE X o (tVar i)) (ha : PA X (e :: es) (tDA X.K fa))
    (hbase : attributeBase o name X.env (eval o X.env) = eval o X.env := by rfl)
    (hfew : ((backTo cpos (starEach (e :: es) X.env)).all (fun x => !x.1) && (backToKw cpos (keywordEach [] X.env)).all (fun x => x.1.isSome) && decide ((e :: es).length + ([] : List Keyword).length + (if ([] : List Keyword).isEmpty then 0 else 1) < 30)) = true := by rfl)
    (hline : (apos.endLine == cpos.line) = true := by rfl) (hs : starEach (e :: es) X.env = (false, eval e X.env) :: starEach es X.env := by rfl) (hplain : (backTo cpos (starEach es X.env)).any (·.1) = false := by rfl) :
    PE X (.Call (.Attribute o name apos) (e :: es) [] cpos) (tDE X.K (eMut u i fa)) := pe_weak (pe_bm PySem.F.plainAttrs_list slot hty hm ho ha hbase hfew hline hs hplain) fun _ _ _ h => mut_red m h
theorem d_meth0 (slot : Slot "list" name id) (hty : typeOf (.builtin id) = pure (.type "method_descriptor")) (hm : MtR X id r) (m : MutOk X.K r u) (ho : PE X o (tVar i))
    (hbase : attributeBase o name X.env (eval o X.env) = eval o X.env := by rfl) (hline : (apos.endLine == cpos.line) = true := by rfl) :
    PE X (.Call (.Attribute o name apos) [] [] cpos) (tDE X.K (eMut u i eNil)) := pe_weak (pe_bm0 PySem.F.plainAttrs_list slot hty hm ho hbase hline) fun σ H Q h => by
  obtain ⟨v, hv, ty, S, h, ρ', e1, e2, R, e, q⟩ := mut_red m h
  subst e1; subst e2
  obtain ⟨rfl, rfl⟩ := pur_some e
  exact ⟨v, hv, ty, q [] S rfl rfl R (Kp.refl S) .nil⟩
end
def uAppend : List PD → List PD → Option (PD × List PD) := fun cs ds => match ds with
  | [d] => if cs.length < sizeLine then some (.none, cs ++ [d]) else none
  | _ => none
theorem m_append {K : PySem.W.Frag} : MutOk K rAppend uAppend := by
  intro F H a cv vs cs ds cs' d Q fh fa hh rc rv e q
  cases rv with
  | nil => cases e
  | cons h r =>
    cases r with
    | cons _ _ => cases e
    | nil =>
      simp only [uAppend] at e
      split at e
      · next hz =>
        cases e
        exact ⟨a, cv, _, rfl, rfl, hh, by rw [rc.len]; exact hz, q .non _ (rc.app (.cons h .nil)) .non⟩
      · cases e
def uExtend : List PD → List PD → Option (PD × List PD) := fun cs ds => match ds with
  | [.list es] => if cs.length + es.length ≤ sizeLine then some (.none, cs ++ es) else none
  | _ => none
theorem m_extend {K : PySem.W.Frag} : MutOk K rExtend uExtend := by
  intro F H a cv vs cs ds cs' d Q fh fa hh rc rv e q
  cases rv with
  | nil => cases e
  | cons h r =>
    cases r with
    | cons _ _ => cases h <;> cases e
    | nil =>
      cases h with
      | lst hb rb =>
        simp only [uExtend] at e
        split at e
        · next hz =>
          cases e
          exact ⟨a, _, cv, _, rfl, rfl, hh, fh _ _ hb, by rw [rc.len, rb.len]; exact hz, q .non _ (rc.app rb) .non⟩
        · cases e
      | non => cases e
      | bl _ => cases e
      | int _ => cases e
      | str _ => cases e
      | tup _ _ => cases e
      | dct _ _ => cases e
def uPop : List PD → List PD → Option (PD × List PD) := fun cs ds => match ds with
  | [] => match cs[cs.length - 1]? with
    | some d => some (d, cs.dropLast)
    | none => none
  | _ => none
theorem RpA.dropLast {K : PySem.W.Frag} {F : Hp} {vs : List V} {ds : List PD} (h : RpA K F vs ds) : RpA K F vs.dropLast ds.dropLast := by
  rw [List.dropLast_eq_take, List.dropLast_eq_take, h.len]
  exact h.take _
theorem m_pop {K : PySem.W.Frag} : MutOk K rPop uPop := by
  intro F H a cv vs cs ds cs' d Q fh fa hh rc rv e q
  cases rv with
  | cons _ _ => cases e
  | nil =>
    simp only [uPop] at e
    split at e
    · next hz =>
      cases e
      obtain ⟨v, hv, rv⟩ := rc.get hz
      exact ⟨a, cv, v, rfl, rfl, hh, by rw [rc.len]; exact hv, q v _ rc.dropLast rv⟩
    · cases e
def uPopAt : List PD → List PD → Option (PD × List PD) := fun cs ds => match ds with
  | [.int i] => if -(2 ^ 63) ≤ i ∧ i < 2 ^ 63 then match seqIndex? i cs.length with
    | some k => match cs[k]? with
      | some d => some (d, cs.eraseIdx k)
      | none => none
    | none => none else none
  | _ => none
theorem RpA.erase {K : PySem.W.Frag} {F : Hp} : ∀ {vs : List V} {ds : List PD} (k : Nat), RpA K F vs ds → RpA K F (vs.eraseIdx k) (ds.eraseIdx k)
  | _, _, _, .nil => .nil
  | _, _, 0, .cons _ r => r
  | _, _, k + 1, .cons h r => .cons h (RpA.erase k r)
theorem m_popAt {K : PySem.W.Frag} : MutOk K rPopAt uPopAt := by
  intro F H a cv vs cs ds cs' d Q fh fa hh rc rv e q
  cases rv with
  | nil => cases e
  | cons h r =>
    cases r with
    | cons _ _ => cases h <;> cases e
    | nil =>
      cases h with
      | int i =>
        simp only [uPopAt] at e
        split at e
        · next hz =>
          cases hk : seqIndex? i cs.length with
          | none => simp only [hk] at e; cases e
          | some k =>
            simp only [hk] at e
            cases hd : cs[k]? with
            | none => simp only [hd] at e; cases e
            | some d' =>
              simp only [hd] at e; cases e
              obtain ⟨v, hv, rv⟩ := rc.get hd
              exact ⟨a, cv, i, k, v, rfl, rfl, hh, hz.1, hz.2, by rw [rc.len]; exact hk, hv, q v _ (rc.erase k) rv⟩
        · cases e
      | non => cases e
      | bl _ => cases e
      | lst _ _ => cases e
      | str _ => cases e
      | tup _ _ => cases e
      | dct _ _ => cases e
/-- x[k] = e, x a slot's list -/
def sSetIx (i : Nat) (fk fe : M Hd) : M Out := bnd (slotL i) fun _ => bnd fe fun he => bnd (frz he) fun d => bnd fk fun hk ρ => match hk with
  | .dat (.int k) => match ρ[i]? with
    | some s => match s.lst with
      | some cs => match ixN cs.length k with
        | some j => some (.nx, ρ.set i (s.put (cs.set j d)))
        | none => none
      | none => none
    | none => none
  | _ => none
theorem s_setIx {X : Cx} {o k e : Expr} {pos pos' : Pos} {i : Nat} {fk fe : M Hd} (he : PE X e (tDE X.K fe)) (ho : PE X o (tVar i)) (hk : PE X k (tDE X.K fk)) (hs : swapsWithSole [.Subscript o k pos'] e pos.line X.env = pure false := by rfl) (hw : swappedStores [.Subscript o k pos'] e X.env = pure none := by rfl)
    (h1 : (assignEach [.Subscript o k pos'] X.env).map (·.2) = [assign (.Subscript o k pos') X.env] := by rfl)
    (ha : ∀ v, assign (.Subscript o k pos') X.env v = (do
      let ov ← holding [v] (eval o X.env)
      let iv ← holding [v, ov] (eval k X.env)
      standAt pos'
      holding [v, ov, iv] (setItem ov iv v)
      release [v, ov, iv] []) := by intro _; rfl) :
    PS X (.Assign [.Subscript o k pos'] e pos) (tDS X.K (sSetIx i fk fe)) := by
  refine ps_weak (ps_asg he (pg_sub ho hk set_list ha) hs hw h1) fun D σ H ⟨S, r, ρ', e1, e2, R, e, q⟩ => ?_
  subst e1; subst e2
  obtain ⟨c0, ρ0, e0, e⟩ := bnd_some e
  obtain ⟨er0, s0, a0, hs0, hl0, hv0, _⟩ := slotL_ok R e0
  subst er0
  obtain ⟨h, ρ1, ea, e⟩ := bnd_some e
  refine ⟨S, h, ρ1, rfl, rfl, R, ea, fun v ⟨F, ρ, σ, H⟩ es er RT kT hT => ?_⟩
  simp only at es er; subst er
  obtain ⟨d, ρ2, eb, e⟩ := bnd_some e
  obtain ⟨F1, R1, k1, r1, s1, _, _⟩ := frz_ok RT kT hT eb
  obtain ⟨hk', ρ3, ec, e⟩ := bnd_some e
  refine ⟨.ref a0, hv0, ⟨F1, ρ2, σ, H⟩, hk', ρ3, es, rfl, R1, ec, fun kv ⟨F2, ρ2', σ2, H2⟩ es2 er2 R2 k2 h2 => ?_⟩
  simp only at es2 er2; subst er2
  cases hk' with
  | slot j => cases e
  | frL j => cases e
  | frD j => cases e
  | dat dk =>
    cases dk with
    | int k =>
      have h2' : Rp X.K F2 kv (.int k) := h2
      cases h2'
      cases es3 : ρ2'[i]? with
      | none => simp only [es3] at e; cases e
      | some s =>
        simp only [es3] at e
        cases el : s.lst with
        | none => simp only [el] at e; cases e
        | some cs =>
          simp only [el] at e
          cases eg : ixN cs.length k with
          | none => simp only [eg] at e; cases e
          | some j =>
            simp only [eg] at e; cases e
            obtain ⟨o, ho, so⟩ := R2.at es3
            obtain ⟨a, cv, rfl, fa, hh, rc⟩ := SV.lst_ok el so
            have ho' : σ2[i]? = some (some (.ref a)) := ho
            rw [es2, hv0] at ho'; cases ho'
            obtain ⟨R3, k3⟩ := own_upd R2 (k1.trans k2) es3 el ho (rc.set (r1.mono k2.ff) j)
            refine ⟨a0, cv, k, j, rfl, rfl, hh, by rw [rc.len]; exact eg, ?_⟩
            have := q ⟨F2, ρ2'.set i (s.put (cs.set j d)), σ2, upd H2 a0 (.lst (cv.set j v))⟩ rfl R3 k3
            rw [← es2]
            exact this
    | none => cases e
    | bool _ => cases e
    | str _ => cases e
    | list _ => cases e
    | tuple _ => cases e
    | dict _ => cases e

/-! ### defs that change their first argument, a list; defs of the script -/
theorem startB {K : PySem.W.Frag} {F H : Hp} {a : Addr} {cv rs : List V} {cs ds : List PD} {N : List Str} (fh : Same F H) (fa : F a = none) (hh : H a = some (.lst cv)) (rc : RpA K F cv cs) (r : RpA K F rs ds) :
    Rel K ⟨F, SV.bor cs :: (ds.map SV.val ++ List.replicate (N.length - 1 - ds.length) SV.un), L2.start N (.ref a :: rs), H⟩ ∧ ∀ b, Ow (SV.bor cs :: (ds.map SV.val ++ List.replicate (N.length - 1 - ds.length) SV.un)) (L2.start N (.ref a :: rs)) b → b = a := by
  have hl := r.len
  have es : L2.start N (.ref a :: rs) = some (.ref a) :: (rs.map some ++ List.replicate (N.length - 1 - ds.length) none) := by
    unfold L2.start
    rw [List.map_cons, List.length_cons, hl, List.cons_append, show N.length - (ds.length + 1) = N.length - 1 - ds.length by omega]
  rw [es]
  have sl := start_slot (K := K) (F := F) (H := H) (n := 0) r (N.length - 1 - ds.length)
  have ll : (ds.map SV.val ++ List.replicate (N.length - 1 - ds.length) SV.un).length = (rs.map some ++ List.replicate (N.length - 1 - ds.length) (none : Option V)).length := by
    simp only [List.length_append, List.length_map, List.length_replicate, hl]
  have nO : ∀ (i : Nat) s, (ds.map SV.val ++ List.replicate (N.length - 1 - ds.length) SV.un)[i]? = some s → s.isO = false := fun i s e => by
    have hi := (List.getElem?_eq_some_iff.mp e).1
    rw [ll] at hi
    exact (sl i s _ e (List.getElem?_eq_getElem hi)).2
  refine ⟨⟨by show _ + 1 = _ + 1; rw [ll], fh, fun i s o e1 e2 => ?_, fun i j s t b e1 q1 e2 q2 z1 z2 => ?_⟩, fun b h => ?_⟩
  · cases i with
    | zero =>
      have e1' : some (SV.bor cs) = some s := e1
      have e2' : some (some (V.ref a)) = some o := e2
      cases e1'; cases e2'
      exact ⟨a, cv, rfl, fa, hh, rc⟩
    | succ i => exact (sl i s o (by simpa using e1) (by simpa using e2)).1
  · cases i with
    | zero =>
      cases j with
      | zero => rfl
      | succ j => rw [nO j t (by simpa using e2)] at q2; cases q2
    | succ i => rw [nO i s (by simpa using e1)] at q1; cases q1
  · obtain ⟨i, s, e, q, z⟩ := h
    cases i with
    | zero =>
      have z' : some (some (V.ref a)) = some (some (V.ref b)) := z
      cases z'; rfl
    | succ i => rw [nO i s (by simpa using e)] at q; cases q
theorem fnB {P : Program} {w : World} {K : PySem.W.Frag} {mg : Str → Option Value} {base : Heap} {k n : Nat} {f : Addr} {fd : FuncData} {x qual : Str} {st : Stmt} {N ps : List Str} {b : M Out} (F : Fun K x qual st f fd) (S : FnScope N ps (defScope st)) (hn : n + 1 = ps.length)
    (body : ∀ (cdv : Value) (A : Around) (outer : List Env) (s : Shared) (H : Hp), Room k (A.deeper (envOfC qual (defScope st) s.heap.objs.size f cdv)) ∧ (A.deeper (envOfC qual (defScope st) s.heap.objs.size f cdv)).guards = some [] → PSs (cxOf CX0 P w K mg base N qual (defScope st) f cdv A outer s H E0).nox (defBody st) (tDS K b)) :
    FnG P w K mg base (k + 1) f fd ps (spB K n (runB N.length b)) := by
  refine FnG.of F S (fun vs H Q ⟨F, a, cv, rs, cs, ds, h, cs', e, hl, _⟩ => by rw [e, List.length_cons, hl]; exact hn) fun cdv A outer s H vs Q hr hg ⟨F, a, cv, rs, cs, ds, h, cs', ev, hl, fh, fa, hh, rc, r, e, q⟩ => ⟨_, body cdv A outer s H ⟨hr, hg⟩, ?_⟩
  subst ev
  obtain ⟨R, ow⟩ := startB (N := N) fh fa hh rc r
  unfold runB at e
  have w0 : Ow (SV.bor cs :: (ds.map SV.val ++ List.replicate (N.length - 1 - ds.length) SV.un)) (L2.start N (.ref a :: rs)) a := by
    refine ⟨0, SV.bor cs, rfl, rfl, ?_⟩
    unfold L2.start
    rfl
  have fin : ∀ (T : Sx) (ρ' : En) v (h' : Hd), T.ρ = ρ' → Rel K T → Kp ⟨F, SV.bor cs :: (ds.map SV.val ++ List.replicate (N.length - 1 - ds.length) SV.un), L2.start N (.ref a :: rs), H⟩ T → RtOk K ⟨F, SV.bor cs :: (ds.map SV.val ++ List.replicate (N.length - 1 - ds.length) SV.un), L2.start N (.ref a :: rs), H⟩ T v h' →
      (match (ρ' : En)[0]? with
      | some (SV.bor cs') => some (h', cs')
      | _ => none) = some (h, cs') → Q v T.H := fun T ρ' v h' er RT kT hv e' => by
    subst er
    cases e0 : T.ρ[0]? with
    | none => simp only [e0] at e'; cases e'
    | some s0 =>
      cases s0 with
      | bor d =>
        simp only [e0] at e'
        cases e'
        obtain ⟨_, z⟩ := kT.bor 0 cs rfl
        obtain ⟨o, ho, so⟩ := RT.at e0
        obtain ⟨a1, cv', rfl, fa', hh', rc'⟩ := so
        have z' : T.σ[0]? = some (some (.ref a)) := by
          rw [z]
          show (L2.start N (.ref a :: rs))[0]? = _
          unfold L2.start
          rfl
        rw [z'] at ho; cases ho
        have wT : Ow T.ρ T.σ a := ⟨0, _, e0, rfl, z'⟩
        refine q v T.F T.H cv' ⟨kT.ff, fun c o e => ?_, fun c o e => ?_, fun c z1 z2 => ?_⟩ hh' rc' fa' ?_
        · by_cases hc : c = a
          · subst hc; rw [upd_same, ← e]; exact hh.symm
          · rw [upd_ne hc]; exact kT.keep c o e fun w => hc (ow c w)
        · rw [upd_ne (ne_of_none e fa')]; exact RT.fh c o e
        · by_cases hc : c = a
          · subst hc; exact fa'
          · exact kT.nof c z1 z2 fun w => hc (ow c w)
        · cases h with
          | dat d => exact hv
          | slot j => exact hv
          | frL d => obtain ⟨b, vs, e, n, f, h, r, no⟩ := hv; exact ⟨b, vs, e, n.elim (fun w => by rw [ow b w] at no; exact absurd wT no) id, f, h, r⟩
          | frD d => obtain ⟨b, vs, e, n, f, h, r, no⟩ := hv; exact ⟨b, vs, e, n.elim (fun w => by rw [ow b w] at no; exact absurd wT no) id, f, h, r⟩
      | un => simp only [e0] at e'; cases e'
      | val _ => simp only [e0] at e'; cases e'
      | own _ => simp only [e0] at e'; cases e'
      | odk _ => simp only [e0] at e'; cases e'
      | scr _ => simp only [e0] at e'; cases e'
  cases eb : b (SV.bor cs :: (ds.map SV.val ++ List.replicate (N.length - 1 - ds.length) SV.un)) with
  | none => rw [eb] at e; cases e
  | some p =>
    obtain ⟨o, ρ'⟩ := p
    refine ⟨⟨F, _, L2.start N (.ref a :: rs), H⟩, o, ρ', rfl, rfl, R, eb, ?_⟩
    rw [eb] at e
    cases o with
    | nx => exact fun T er RT kT => fin T ρ' .non (.dat .none) er RT kT .non e
    | rt h' => exact fun v T er RT kT hv => fin T ρ' v h' er RT kT hv e
    | bk => cases e
    | ct => cases e
/-- a def of the script -/
def spS (K : PySem.W.Frag) (g : List Int → Option Hd) : List V → Hp → VK → Prop := fun vs H Q => ∃ F a ns h, vs = [.ref a] ∧ Same F H ∧ SqL K F a (ns.map V.int) ∧ g ns = some h ∧ ∀ v F' H', Grow F H F' H' → GvOk K F' H H' v h → Q v H'
def runS (n : Nat) (f : M Out) (ns : List Int) : Option Hd := match f (SV.scr ns :: List.replicate (n - 1) SV.un) with
  | some (.rt h, _) => some h
  | some (.nx, _) => some (.dat .none)
  | _ => none
theorem startS {K : PySem.W.Frag} {F H : Hp} {a : Addr} {ns : List Int} {N : List Str} (fh : Same F H) (hs : SqL K F a (ns.map V.int)) :
    Rel K ⟨F, SV.scr ns :: List.replicate (N.length - 1) SV.un, L2.start N [.ref a], H⟩ ∧ ∀ b, ¬ Ow (SV.scr ns :: List.replicate (N.length - 1) SV.un) (L2.start N [.ref a]) b := by
  have es : L2.start N [.ref a] = some (.ref a) :: List.replicate (N.length - 1) none := rfl
  rw [es]
  have nO : ∀ (i : Nat) s, (SV.scr ns :: List.replicate (N.length - 1) SV.un)[i]? = some s → s.isO = false := fun i s e => by
    cases i with
    | zero => have e' : some (SV.scr ns) = some s := e; cases e'; rfl
    | succ i =>
      have := List.eq_of_mem_replicate (List.mem_of_getElem? (show (List.replicate (N.length - 1) SV.un)[i]? = some s by simpa using e))
      subst this; rfl
  refine ⟨⟨by simp, fh, fun i s o e1 e2 => ?_, fun i j s t b e1 q1 => ?_⟩, fun b h => ?_⟩
  · cases i with
    | zero =>
      have e1' : some (SV.scr ns) = some s := e1
      have e2' : some (some (V.ref a)) = some o := e2
      cases e1'; cases e2'
      exact ⟨a, rfl, hs⟩
    | succ i =>
      have := List.eq_of_mem_replicate (List.mem_of_getElem? (show (List.replicate (N.length - 1) SV.un)[i]? = some s by simpa using e1))
      subst this; trivial
  · rw [nO i s e1] at q1; cases q1
  · obtain ⟨i, s, e, q, _⟩ := h
    rw [nO i s e] at q; cases q
theorem fnS {P : Program} {w : World} {K : PySem.W.Frag} {mg : Str → Option Value} {base : Heap} {k : Nat} {f : Addr} {fd : FuncData} {x qual p : Str} {st : Stmt} {N : List Str} {b : M Out} (F : Fun K x qual st f fd) (S : FnScope N [p] (defScope st))
    (body : ∀ (cdv : Value) (A : Around) (outer : List Env) (s : Shared) (H : Hp), Room k (A.deeper (envOfC qual (defScope st) s.heap.objs.size f cdv)) ∧ (A.deeper (envOfC qual (defScope st) s.heap.objs.size f cdv)).guards = some [] → PSs (cxOf CX0 P w K mg base N qual (defScope st) f cdv A outer s H E0).nox (defBody st) (tDS K b)) :
    FnG P w K mg base (k + 1) f fd [p] (spS K (runS N.length b)) := by
  refine FnG.of F S (fun vs H Q ⟨F, a, ns, h, e, _⟩ => by rw [e]; rfl) fun cdv A outer s H vs Q hr hg ⟨F, a, ns, h, ev, fh, hs, e, q⟩ => ⟨_, body cdv A outer s H ⟨hr, hg⟩, ?_⟩
  subst ev
  obtain ⟨R, no⟩ := startS (N := N) fh hs
  unfold runS at e
  cases eb : b (SV.scr ns :: List.replicate (N.length - 1) SV.un) with
  | none => rw [eb] at e; cases e
  | some p =>
    obtain ⟨o, ρ'⟩ := p
    have gr : ∀ T : Sx, Rel K T → Kp ⟨F, SV.scr ns :: List.replicate (N.length - 1) SV.un, L2.start N [.ref a], H⟩ T → Grow F H T.F T.H := fun T RT k => ⟨k.ff, fun c o e => k.keep c o e (no c), RT.fh, fun c z1 z2 => k.nof c z1 z2 (no c)⟩
    refine ⟨⟨F, _, L2.start N [.ref a], H⟩, o, ρ', rfl, rfl, R, eb, ?_⟩
    rw [eb] at e
    cases o with
    | nx =>
      cases e
      exact fun T _ RT kT => q .non T.F T.H (gr T RT kT) .non
    | rt h' =>
      cases e
      exact fun v T _ RT kT hv => q v T.F T.H (gr T RT kT) (gv_of no hv)
    | bk => cases e
    | ct => cases e
/-- a call of a def of the script -/
def eCallS (g : List Int → Option Hd) (i : Nat) : M Hd := fun ρ => match ρ[i]? with
  | some (.scr ns) => match g ns with
    | some h => some (h, ρ)
    | none => none
  | _ => none
theorem d_callS {X : Cx} {k : Nat} {f : Addr} {fd : FuncData} {ps : List Str} {x : Str} {p pos : Pos} {e : Expr} {g : List Int → Option Hd} {i : Nat} (G : FnG X.prog X.w X.K X.mg X.base k f fd ps (spS X.K g)) (hr : Room k X.A ∧ X.A.guards = some []) (hg : Gl X x) (hm : X.mg x = some (.ref f)) (hk : PySem.W.keepIn X.K (.ref f) = true) (hb : Binds X.K fd ps []) (hv : PE X e (tVar i)) (hdb : (x == ("__debug__" : Str)) = false := by decide)
    (he : starEach [e] X.env = (false, eval e X.env) :: starEach [] X.env := by rfl) (hpl : (backTo pos (starEach [] X.env)).any (·.1) = false := by rfl) : PE X (.Call (.Name x p) [e] [] pos) (tDE X.K (eCallS g i)) := by
  refine pe_weak (pe_callG G hr hg hm hk hb (pa_cons hv pa_nil he) hdb he hpl) fun σ H Q ⟨S, h, ρ', e1, e2, R, e, q⟩ => ?_
  subst e1; subst e2
  unfold eCallS at e
  cases es : S.ρ[i]? with
  | none => simp only [es] at e; cases e
  | some s =>
    cases s with
    | scr ns =>
      simp only [es] at e
      cases eg : g ns with
      | none => simp only [eg] at e; cases e
      | some h' =>
        simp only [eg] at e; cases e
        obtain ⟨o, ho, a, rfl, hs⟩ := R.at es
        exact ⟨.ref a, ho, S.F, a, ns, h, rfl, R.fh, hs, eg, fun v F' H' gr gv => q v ⟨F', S.ρ, S.σ, H'⟩ rfl rfl (R.grow gr) (Kp.grow gr) (gv.hd R (Kp.refl S))⟩
    | un => simp only [es] at e; cases e
    | val _ => simp only [es] at e; cases e
    | own _ => simp only [es] at e; cases e
    | bor _ => simp only [es] at e; cases e
    | odk _ => simp only [es] at e; cases e
end DL
set_option Elab.async false
set_option linter.all false
set_option maxRecDepth 100000
/-! DL: what is walked: lists, tuples, texts, ranges, zip, enumerate. -/
namespace DL
open PySem PySem.Spec PyProof.Rows L2

def chars (z : Str) : List PD := z.cps.toList.map fun c => .str ⟨#[c]⟩
def seqOf : PD → Option (List PD)
  | .list ds => some ds
  | .tuple ds => some ds
  | .str z => some (chars z)
  | _ => none
def eIt (f : M Hd) : M (List PD) := bnd (eFrz f) fun d ρ => match seqOf d with
  | some ds => some (ds, ρ)
  | none => none
section
variable {K : PySem.W.Frag}
theorem it_list {F0 : Hp} {a : Addr} {xs : List V} {ds : List PD} (h : F0 a = some (.lst xs)) (r : RpA K F0 xs ds) : ItOk K (Itl K a) F0 ds := fun i F H s1 s2 => by
  have hs : SqL K H a xs := .inl (.inl (s2 _ _ (s1 _ _ h)))
  refine ⟨fun d e => ?_, fun e => ⟨xs, hs, by rw [r.len, e]; exact Nat.le_refl _⟩⟩
  obtain ⟨v, hv, rv⟩ := r.get e
  exact ⟨⟨xs, v, hs, hv⟩, fun x H' y => ⟨F, by rw [y.1]; exact Grow.refl s2, by
    have := y.2 xs hs
    rw [hv] at this; cases this
    exact rv.mono s1⟩⟩
theorem it_tup {F0 : Hp} {a : Addr} {xs : List V} {ds : List PD} (h : SqT K F0 a xs) (r : RpA K F0 xs ds) : ItOk K (Itt K a) F0 ds := fun i F H s1 s2 => by
  have hs : SqT K H a xs := same_tup s2 (same_tup s1 h)
  refine ⟨fun d e => ?_, fun e => ⟨xs, hs, by rw [r.len, e]; exact Nat.le_refl _⟩⟩
  obtain ⟨v, hv, rv⟩ := r.get e
  exact ⟨⟨xs, v, hs, hv⟩, fun x H' y => ⟨F, by rw [y.1]; exact Grow.refl s2, by
    have := y.2 xs hs
    rw [hv] at this; cases this
    exact rv.mono s1⟩⟩
theorem it_str {F0 : Hp} {z : Str} : ItOk K (Its z) F0 (chars z) := fun i F H s1 s2 => by
  have w := walk_str (z := z)
  have hl : (chars z).length = z.cps.size := by simp [chars]
  refine ⟨fun d e => ?_, fun e => ?_⟩
  · have hi : i < z.cps.size := by
      rw [← hl]; exact (List.getElem?_eq_some_iff.mp e).1
    refine ⟨w.goes i H hi trivial, fun x H' y => ?_⟩
    obtain ⟨rfl, c, hc, rfl⟩ := w.yields i H x H' hi trivial y
    refine ⟨F, Grow.refl s2, ?_⟩
    simp only [chars, List.getElem?_map] at e
    rw [show z.cps.toList[i]? = some c by simpa using hc] at e
    cases e
    exact .str _
  · rw [e, hl]; exact w.stops H trivial
theorem it_range {F0 : Hp} {lo : Int} {n : Nat} : ItOk K (Itr lo n) F0 ((List.range n).map fun (j : Nat) => PyData.int (lo + j)) := fun i F H s1 s2 => by
  refine ⟨fun d e => ?_, fun e => by rw [e]; simp [Itr]⟩
  have hi : i < n := by simpa using (List.getElem?_eq_some_iff.mp e).1
  refine ⟨hi, fun x H' y => ⟨F, by rw [y.1]; exact Grow.refl s2, ?_⟩⟩
  rw [y.2]
  simp only [List.getElem?_map, List.getElem?_range hi, Option.map_some] at e
  cases e
  exact .int _
theorem it_rangeC {F0 : Hp} {lo c : Int} {n : Nat} : ItOk K (Itc lo c n) F0 ((List.range n).map fun (j : Nat) => PyData.int (lo + (j : Nat) * c)) := fun i F H s1 s2 => by
  have w := walk_rangeC (lo := lo) (c := c) (n := n)
  refine ⟨fun d e => ?_, fun e => by rw [e]; simpa using w.stops H trivial⟩
  have hi : i < n := by simpa using (List.getElem?_eq_some_iff.mp e).1
  refine ⟨w.goes i H hi trivial, fun x H' y => ?_⟩
  obtain ⟨rfl, ex⟩ := w.yields i H x H' hi trivial y
  refine ⟨F, Grow.refl s2, ?_⟩
  rw [ex]
  simp only [List.getElem?_map, List.getElem?_range hi, Option.map_some] at e
  cases e
  exact .int _
end
section
variable {X : Cx} {e a b c tg iter : Expr} {es : List Expr} {pos p : Pos}
theorem pi_weak {t t' : TI} (h : PI X tg iter t) (w : ∀ σ H R, t' σ H R → t σ H R) : PI X tg iter t' := ⟨fun pins s σ H R I q => h.run pins s σ H R I (w σ H R q)⟩
/-- for .. in e, e a list, a tuple or a text -/
theorem i_seq {f : M Hd} (he : PE X e (tDE X.K f)) : PI X tg e (tDI X.K (eIt f)) := by
  refine ⟨fun pins s σ H R I ⟨S, items, ρ', e1, e2, RS, ez, q⟩ => ?_⟩
  subst e1; subst e2
  obtain ⟨d, ρ1, ed, ez⟩ := bnd_some ez
  obtain ⟨h, ρ2, ea, ef⟩ := bnd_some ed
  have main : ∀ (Q : V → Hp → Prop), (∀ v (T : Sx), T.σ = S.σ → Rel X.K T → Kp S T → Rp X.K T.F v d → T.ρ = ρ1 → Q v T.H) → tDE X.K f S.σ S.H Q := fun Q hQ => ⟨S, h, ρ2, rfl, rfl, RS, ea, fun v ⟨F, ρ, σ, H⟩ es er RT kT hT => by
    simp only at es er; subst er
    obtain ⟨F1, R1, k1, r1, s1, _, _⟩ := frz_ok RT kT hT ef
    exact hQ v ⟨F1, ρ1, σ, H⟩ es R1 k1 r1 rfl⟩
  cases d with
  | list ds =>
    cases ez
    refine (pi_list (tg := tg) he).run pins s _ _ R I (main _ fun v T es RT kT rT er => ?_)
    cases rT with
    | lst h r => exact ⟨_, rfl, ⟨_, .inl (.inl (RT.fh _ _ h))⟩, q _ T es er RT kT (it_list h r)⟩
  | tuple ds =>
    cases ez
    refine (pi_tup (tg := tg) he).run pins s _ _ R I (main _ fun v T es RT kT rT er => ?_)
    cases rT with
    | tup h r => exact ⟨_, rfl, ⟨_, .inl (.inl (RT.fh _ _ h))⟩, q _ T es er RT kT (it_tup (.inl (.inl h)) r)⟩
  | str z =>
    cases ez
    refine (pi_str (tg := tg) he).run pins s _ _ R I (main _ fun v T es RT kT rT er => ?_)
    cases rT with
    | str z => exact ⟨z, rfl, q _ T es er RT kT it_str⟩
  | none => cases ez
  | bool _ => cases ez
  | int _ => cases ez
  | dict _ => cases ez
theorem rt_int {F H : Hp} {v : V} {K : PySem.W.Frag} {i : Int} (h : Rt K F H v (.int i)) : v = .int i := by cases h; rfl
/-- an int by an expression -/
def eInt (f : M Hd) : M Int := bnd f fun h ρ => match res ρ h with
  | some (.int j) => some (j, ρ)
  | _ => none
theorem int_red {K : PySem.W.Frag} {f : M Hd} {S : Sx} {j : Int} {ρ' : En} {Q : VK} (R : Rel K S) (e : eInt f S.ρ = some (j, ρ')) (q : ∀ T : Sx, T.σ = S.σ → T.ρ = ρ' → Rel K T → Kp S T → Q (.int j) T.H) : tDE K f S.σ S.H Q := by
  obtain ⟨h, ρ1, ea, e⟩ := bnd_some e
  refine ⟨S, h, ρ1, rfl, rfl, R, ea, fun v T es er RT kT hT => ?_⟩
  subst er
  cases e3 : res T.ρ h with
  | none => simp only [e3] at e; cases e
  | some d =>
    cases d <;> simp only [e3] at e <;> try cases e
    rw [rt_int (hT.rt RT e3)]
    exact q T es rfl RT kT
theorem args1 {K : PySem.W.Frag} {f : M Hd} {σ : St} {H : Hp} {Q : List V → Hp → Prop} (h : tDE K f σ H fun x H1 => Q [x] H1) : tDA K (eCons f eNil) σ H Q := by
  obtain ⟨S, h, ρ', e1, e2, R, e, q⟩ := h
  refine ⟨S, [h], ρ', e1, e2, R, by rw [eCons, bnd_of e]; rfl, fun v T a1 a2 a3 a4 a5 => ?_⟩
  cases a5 with
  | cons h1 _ r =>
    cases r
    exact q _ T a1 a2 a3 a4 h1
/-- ranges -/
def rng (i : Int) (n : Nat) : List PD := (List.range n).map fun (k : Nat) => PyData.int (i + k)
def rngDown (i : Int) (n : Nat) : List PD := (List.range n).map fun (k : Nat) => PyData.int (i + (k : Nat) * (-1))
/-- a test that is not computed -/
noncomputable def cdec (p : Prop) : Bool := @decide p (Classical.propDecidable p)
theorem cdec_iff {p : Prop} : cdec p = true ↔ p := @decide_eq_true_iff p (Classical.propDecidable p)
noncomputable def smallI (i : Int) : Bool := cdec (-(2 ^ 62) ≤ i ∧ i < 2 ^ 62)
noncomputable def eRng1 (f : M Hd) : M (List PD) := bnd (eInt f) fun j ρ => if smallI j = true then some (rng 0 j.toNat, ρ) else none
noncomputable def eRng2 (f g : M Hd) : M (List PD) := bnd (eInt f) fun i => bnd (eInt g) fun j ρ => if smallI i = true ∧ smallI j = true then some (rng i (j - i).toNat, ρ) else none
noncomputable def eRngD (f g : M Hd) : M (List PD) := bnd (eInt f) fun i => bnd (eInt g) fun j ρ => if smallI i = true ∧ smallI j = true then some (rngDown i (i - j).toNat, ρ) else none
theorem i_range1 {f : M Hd} (hg : Gl X "range") (hm : X.mg "range" = none) (ha : PE X a (tDE X.K f)) (hs : starEach [a] X.env = [(false, eval a X.env)] := by rfl) (hs' : starEach [a] X.env = (false, eval a X.env) :: starEach [] X.env := by rfl) : PI X tg (.Call (.Name "range" p) [a] [] pos) (tDI X.K (eRng1 f)) := by
  refine pi_weak (pi_range1 hg hm (pa_cons ha pa_nil hs') hs) fun σ H R ⟨S, items, ρ', e1, e2, RS, ez, q⟩ => ?_
  subst e1; subst e2
  obtain ⟨j, ρ1, ea, ez⟩ := bnd_some ez
  by_cases hb0 : smallI j = true
  · rw [if_pos hb0] at ez; cases ez
    have hb := cdec_iff.mp hb0
    exact int_red RS ea fun T es er RT kT => ⟨j, rfl, hb.1, hb.2, q _ T es er RT kT it_range⟩
  · rw [if_neg hb0] at ez; cases ez
theorem i_range2 {f g : M Hd} (hg : Gl X "range") (hm : X.mg "range" = none) (ha : PE X a (tDE X.K f)) (hb : PE X b (tDE X.K g)) (hs : starEach [a, b] X.env = [(false, eval a X.env), (false, eval b X.env)] := by rfl) (hs2 : starEach [b] X.env = [(false, eval b X.env)] := by rfl)
    (hs' : starEach [a, b] X.env = (false, eval a X.env) :: starEach [b] X.env := by rfl) (hs2' : starEach [b] X.env = (false, eval b X.env) :: starEach [] X.env := by rfl) :
    PI X tg (.Call (.Name "range" p) [a, b] [] pos) (tDI X.K (eRng2 f g)) := by
  refine pi_weak (pi_range2 hg hm (pa_cons ha (pa_cons hb pa_nil hs2') hs') hs hs2) fun σ H R ⟨S, items, ρ', e1, e2, RS, ez, q⟩ => ?_
  subst e1; subst e2
  obtain ⟨i, ρ1, ea, ez⟩ := bnd_some ez
  obtain ⟨j, ρ2, eb, ez⟩ := bnd_some ez
  by_cases hb0 : smallI i = true ∧ smallI j = true
  · rw [if_pos hb0] at ez; cases ez
    have hb1 := cdec_iff.mp hb0.1
    have hb2 := cdec_iff.mp hb0.2
    have hb := And.intro hb1.1 (And.intro hb1.2 hb2)
    show tDE X.K f S.σ S.H fun x H1 => tDE X.K g S.σ H1 fun y H2 => ∃ i j : Int, [x, y] = [V.int i, V.int j] ∧ (-(2 ^ 62) ≤ i ∧ i < 2 ^ 62 ∧ -(2 ^ 62) ≤ j ∧ j < 2 ^ 62) ∧ R (Itr i (j - i).toNat) H2
    refine int_red RS ea fun T es er RT kT => ?_
    subst er
    rw [← es]
    exact int_red RT eb fun U us ur RU kU => ⟨i, j, rfl, hb, q _ U (us.trans es) ur RU (kT.trans kU) it_range⟩
  · rw [if_neg hb0] at ez; cases ez
theorem i_rangeD {f g : M Hd} {jj : Nat} {pc pu : Pos} (hg : Gl X "range") (hm : X.mg "range" = none) (ha : PE X a (tDE X.K f)) (hb : PE X b (tDE X.K g))
    (hs : starEach [a, b, .UnaryOp .USub (.Constant (.int 1) jj pc) pu] X.env = (false, eval a X.env) :: starEach [b, .UnaryOp .USub (.Constant (.int 1) jj pc) pu] X.env := by rfl)
    (hs1 : starEach [b, .UnaryOp .USub (.Constant (.int 1) jj pc) pu] X.env = (false, eval b X.env) :: starEach [.UnaryOp .USub (.Constant (.int 1) jj pc) pu] X.env := by rfl)
    (hs2 : starEach [.UnaryOp .USub (.Constant (.int 1) jj pc) pu] X.env = (false, eval (.UnaryOp .USub (.Constant (.int 1) jj pc) pu) X.env) :: starEach [] X.env := by rfl)
    (hpl : (backTo pos (starEach [b, .UnaryOp .USub (.Constant (.int 1) jj pc) pu] X.env)).any (·.1) = false := by rfl) :
    PI X tg (.Call (.Name "range" p) [a, b, .UnaryOp .USub (.Constant (.int 1) jj pc) pu] [] pos) (tDI X.K (eRngD f g)) := by
  refine pi_weak (pi_range3 hg hm (pa_cons ha (pa_cons hb (pa_cons (pe_un un_neg pe_int) pa_nil hs2) hs1) hs) hs hpl) fun σ H R ⟨S, items, ρ', e1, e2, RS, ez, q⟩ => ?_
  subst e1; subst e2
  obtain ⟨i, ρ1, ea, ez⟩ := bnd_some ez
  obtain ⟨j, ρ2, eb, ez⟩ := bnd_some ez
  by_cases hb0 : smallI i = true ∧ smallI j = true
  · rw [if_pos hb0] at ez; cases ez
    have hb1 := cdec_iff.mp hb0.1
    have hb2 := cdec_iff.mp hb0.2
    have hb := And.intro hb1.1 (And.intro hb1.2 hb2)
    show tDE X.K f S.σ S.H fun x H1 => tDE X.K g S.σ H1 fun y H2 => ∃ k : Int, V.int 1 = V.int k ∧ ∃ (i j c : Int) (n : Nat), [x, y, V.int (-k)] = [V.int i, V.int j, V.int c] ∧ RgC i j c n ∧ R (Itc i c n) H2
    refine int_red RS ea fun T es er RT kT => ?_
    subst er
    rw [← es]
    exact int_red RT eb fun U us ur RU kU => ⟨1, rfl, i, j, -1, (i - j).toNat, rfl, RgC.neg hb.1 hb.2.1 hb.2.2.1 hb.2.2.2, q _ U (us.trans es) ur RU (kT.trans kU) it_rangeC⟩
  · rw [if_neg hb0] at ez; cases ez
/-- the script cut: script[:n] -/
def eScr (i : Nat) (n : Nat) : M (List PD) := fun ρ => match ρ[i]? with
  | some (.scr ns) => some ((ns.take n).map PyData.int, ρ)
  | _ => none
theorem i_script {i : Nat} {n : Nat} {jj : Nat} {pc p2 : Pos} (hv : PE X e (tVar i)) : PI X tg (.Subscript e (.Slice none (some (.Constant (.int (n : Int)) jj pc)) none p2) pos) (tDI X.K (eScr i n)) := by
  refine pi_weak (pi_list (pe_slice sl_list hv po_none (po_some pe_int))) fun σ H R ⟨S, items, ρ', e1, e2, RS, ez, q⟩ => ?_
  subst e1; subst e2
  unfold eScr at ez
  cases es : S.ρ[i]? with
  | none => simp only [es] at ez; cases ez
  | some s =>
    cases s with
    | scr ns =>
      simp only [es] at ez; cases ez
      obtain ⟨o, ho, a, rfl, hs⟩ := RS.at es
      refine ⟨.ref a, ho, n, rfl, a, ns.map V.int, rfl, RS.fh.seq hs, fun p np => ?_⟩
      have ec : cutV (ns.map V.int) none (some (n : Int)) = (ns.take n).map V.int := by
        unfold cutV
        rw [HT.sIx_none, show HT.sIx (ns.map V.int).length (ns.map V.int).length (some (n : Int)) = min n (ns.map V.int).length from HT.sIx_nat _ _ n, List.drop_zero, Nat.sub_zero, ← List.take_take, List.take_length, List.map_take]
      rw [ec]
      have gr := grow_upd (o := .lst ((ns.take n).map V.int)) RS.fh np
      refine ⟨p, rfl, ⟨_, .inl (.inl upd_same)⟩, ?_⟩
      exact q _ ⟨upd S.F p (.lst ((ns.take n).map V.int)), S.ρ, S.σ, upd S.H p (.lst ((ns.take n).map V.int))⟩ rfl rfl (RS.grow gr) (Kp.grow gr) (it_list upd_same (RpA.ofInts _))
    | un => simp only [es] at ez; cases ez
    | val _ => simp only [es] at ez; cases ez
    | own _ => simp only [es] at ez; cases ez
    | bor _ => simp only [es] at ez; cases ez
    | odk _ => simp only [es] at ez; cases ez
end
end DL
set_option Elab.async false
set_option linter.all false
set_option maxRecDepth 100000
/-! DL: zip of two and of three, enumerate, over lists, tuples and texts in any mix. -/
namespace DL
open PySem PySem.Spec PyProof.Rows L2

/-- what an iterator draws from -/
inductive Src where
  | L (a : Addr) | T (a : Addr) | S (z : Str) (t : Tok)
def Src.at (K : PySem.W.Frag) (H : Hp) : Src → List V → Prop
  | .L a, xs => SqL K H a xs
  | .T a, xs => SqT K H a xs
  | .S z _, xs => xs = z.cps.toList.map fun c => V.str ⟨#[c]⟩
def Src.it (it : Addr) (i : Nat) (h : Heap) : Src → Prop
  | .L a => h.IsListIter it a i
  | .T a => h.IsTupleIter it a i
  | .S z t => h.IsStrIter it (strIterType z) z t i
def Src.fp : Src → List Addr
  | .L a => [a]
  | .T a => [a]
  | .S _ _ => []
def Src.val : Src → Value
  | .L a => .ref a
  | .T a => .ref a
  | .S z t => .str z t
def Src.obj : Src → Obj
  | .L a => { cls := .type "list_iterator", data := .fields #[.ref a, .int 0 0] }
  | .T a => { cls := .type "tuple_iterator", data := .fields #[.ref a, .int 0 0] }
  | .S z t => { cls := .type (strIterType z), data := .fields #[.str z t, .int 0 0] }
theorem Src.it_keep {src : Src} {it : Addr} {i : Nat} {h h' : Heap} (q : src.it it i h) (k : ∀ o, h.get? it = some o → h'.get? it = some o) : src.it it i h' := by
  cases src with
  | L a => exact Heap.IsListIter.at q k
  | T a => exact Heap.IsTupleIter.at q k
  | S z t => obtain ⟨o, ho, r⟩ := q; exact ⟨o, k o ho, r⟩
theorem Src.it_obj {src : Src} {it : Addr} {i : Nat} {h : Heap} (q : src.it it i h) : ∃ o, h.get? it = some o ∧ ∀ v, o.data ≠ .cell v := by
  cases src with
  | L a => obtain ⟨o, ho, _, d⟩ := q; exact ⟨o, ho, fun v z => by rw [d] at z; cases z⟩
  | T a => obtain ⟨o, ho, _, d⟩ := q; exact ⟨o, ho, fun v z => by rw [d] at z; cases z⟩
  | S z t => obtain ⟨o, ho, _, d⟩ := q; exact ⟨o, ho, fun v z => by rw [d] at z; cases z⟩
section
variable {X : Cx} {pins : List (Addr × Obj)} {σ : St} {H : Hp} {s : Shared}
theorem chars_rel {z : Str} {i c : Nat} {u : Tok} (h : z.cps[i]? = some c) : ∃ x, (z.cps.toList.map fun c => V.str ⟨#[c]⟩)[i]? = some x ∧ RelV x (.str ⟨#[c]⟩ u) := by
  refine ⟨.str ⟨#[c]⟩, ?_, u, rfl⟩
  rw [List.getElem?_map, show z.cps.toList[i]? = some c by simpa using h]
  rfl
theorem Src.inj {src : Src} {xs ys : List V} (I : Inv X pins σ H s) (a : src.at X.K H xs) (b : src.at X.K H ys) : xs = ys := by
  cases src with
  | L l => exact I.list_inj a b
  | T l => exact I.tuple_inj a b
  | S z t => exact Eq.trans a (Eq.symm b)
/-- the draws at a state -/
theorem Src.draws {src : Src} {it : Addr} {i : Nat} {xs : List V} (I : Inv X pins σ H s) (hc : X.calm = true) (ha : src.at X.K H xs) (hi : src.it it i s.heap) (ne : it ∉ src.fp) (A : Around) (hA : A.handled = X.A.handled) :
    ∃ (n : Nat) (P : Nat → Value → Prop) (St : Nat → Heap → Prop), Draws X.prog X.w A it (it :: src.fp) n P St ∧ n = xs.length ∧ St i s.heap ∧ (∀ j v, P j v → ∃ x, xs[j]? = some x ∧ RelV x v) ∧ (∀ j h, St j h → src.it it j h) := by
  have hh : A.handled = none := hA.trans (I.ok.hd hc)
  cases src with
  | L a =>
    obtain ⟨its, rv, p, hz⟩ := I.list ha
    have nea : a ≠ it := fun z => ne (by simp [Src.fp, z])
    refine ⟨_, _, _, Draws.list hh it a nea its.toArray, by rw [List.size_toArray, rv.length], ⟨hi, p.isList⟩, fun j v e => ?_, fun j h q => q.1⟩
    have e' : its[j]? = some v := by simpa using e
    have hj : j < xs.length := by rw [rv.length]; exact (List.getElem?_eq_some_iff.mp e').1
    obtain ⟨u, hu, ru⟩ := rv.get (List.getElem?_eq_getElem hj)
    rw [e'] at hu; cases hu
    exact ⟨_, List.getElem?_eq_getElem hj, ru⟩
  | T a =>
    obtain ⟨its, rv, p, hz⟩ := I.tuple ha
    have nea : a ≠ it := fun z => ne (by simp [Src.fp, z])
    refine ⟨_, _, _, Draws.tuple hh it a nea its.toArray, by rw [List.size_toArray, rv.length], ⟨hi, p⟩, fun j v e => ?_, fun j h q => q.1⟩
    have e' : its[j]? = some v := by simpa using e
    have hj : j < xs.length := by rw [rv.length]; exact (List.getElem?_eq_some_iff.mp e').1
    obtain ⟨u, hu, ru⟩ := rv.get (List.getElem?_eq_getElem hj)
    rw [e'] at hu; cases hu
    exact ⟨_, List.getElem?_eq_getElem hj, ru⟩
  | S z t =>
    have ha' : xs = z.cps.toList.map fun c => V.str ⟨#[c]⟩ := ha
    subst ha'
    exact ⟨_, _, _, Draws.text hh it z t, by simp, hi, fun j v ⟨c, u, e, ev⟩ => by rw [ev]; exact chars_rel e, fun j h q => q⟩
end
theorem Src.begins {K : PySem.W.Frag} {X : Cx} {pins : List (Addr × Obj)} {σ : St} {H : Hp} {s : Shared} {src : Src} {xs : List V} (I : Inv X pins σ H s) (ha : src.at X.K H xs) : ∃ Hb, Begins src.val src.obj Hb ∧ Hb s.heap ∧ ∀ b ∈ src.fp, b < s.heap.objs.size := by
  cases src with
  | L a =>
    obtain ⟨its, rv, p, hz⟩ := I.list ha
    exact ⟨_, begins_list a its.toArray, p.isList, fun b hb => by simp [Src.fp] at hb; subst hb; exact p.lt⟩
  | T a =>
    obtain ⟨its, rv, p, hz⟩ := I.tuple ha
    exact ⟨_, begins_tuple a its.toArray, p, fun b hb => by simp [Src.fp] at hb; subst hb; exact p.lt⟩
  | S z t => exact ⟨_, begins_text z t, trivial, fun b hb => by simp [Src.fp] at hb⟩
theorem Src.started {src : Src} {it : Addr} {h : Heap} (e : h.get? it = some src.obj) : src.it it 0 h := by
  cases src with
  | L a => exact ⟨_, e, rfl, rfl⟩
  | T a => exact ⟨_, e, rfl, rfl⟩
  | S z t => exact ⟨_, e, rfl, rfl⟩

/-! ### pairs -/
def ItZ (K : PySem.W.Frag) (s1 s2 : Src) : It :=
  ⟨fun i H => ∃ xs ys x y, s1.at K H xs ∧ s2.at K H ys ∧ xs[i]? = some x ∧ ys[i]? = some y,
   fun i H v H' => ∃ T x y, v = .ref T ∧ H T = none ∧ H' = upd H T (.tup [x, y]) ∧ (∀ xs, s1.at K H xs → xs[i]? = some x) ∧ ∀ ys, s2.at K H ys → ys[i]? = some y,
   fun i H => ∃ xs ys, s1.at K H xs ∧ s2.at K H ys ∧ i = min xs.length ys.length⟩
theorem turn_Z {P : Program} {w : World} {K : PySem.W.Frag} {elts : List Expr} {kk : Nat} {tpos : Pos} {s1 s2 : Src} {z TI TO i1 i2 : Addr} (D : ZipSep2 z TI TO i1 i2 (i1 :: s1.fp) (i2 :: s2.fp)) (n1 : i1 ∉ s1.fp) (n2 : i2 ∉ s2.fp) :
    Turn P w K (.Tuple elts kk tpos) (ItZ K s1 s2) [z, TI, TO, i1, i2] z (fun i h => IsZip h z TI TO .none ∧ IsTupOf2 h TI (.ref i1) (.ref i2) ∧ (∃ a1 a2, IsTupOf2 h TO a1 a2) ∧ s1.it i1 i h ∧ s2.it i2 i h) where
  mem := by simp
  obj := fun i h st c hc => by
    obtain ⟨hz, hTI, ⟨x, y, hTO⟩, h1, h2⟩ := st
    have e' : c = z ∨ c = TI ∨ c = TO ∨ c = i1 ∨ c = i2 := by simpa using hc
    rcases e' with q | q | q | q | q
    · rw [q]; exact ⟨_, hz, fun v q => nomatch q⟩
    · rw [q]; exact ⟨_, hTI, fun v q => nomatch q⟩
    · rw [q]; exact ⟨_, hTO, fun v q => nomatch q⟩
    · rw [q]; exact (Src.it_obj h1)
    · rw [q]; exact (Src.it_obj h2)
  keep := fun i h h' st k => by
    obtain ⟨hz, hTI, ⟨x, y, hTO⟩, h1, h2⟩ := st
    exact ⟨k z (by simp) _ hz, k TI (by simp) _ hTI, ⟨x, y, k TO (by simp) _ hTO⟩, Src.it_keep h1 (k i1 (by simp)), Src.it_keep h2 (k i2 (by simp))⟩
  item := by
    intro X hP hw hK hc i pins s σ H E I hf st hg
    subst hP hw hK
    obtain ⟨hz, hTI, hTO, h1, h2⟩ := st
    obtain ⟨xs, ys, x, y, ax, ay, hx, hy⟩ := hg
    obtain ⟨m1, P1, S1, D1, e1, t1, p1, b1⟩ := Src.draws I hc ax h1 n1 X.A.in1 rfl
    obtain ⟨m2, P2, S2, D2, e2, t2, p2, b2⟩ := Src.draws I hc ay h2 n2 X.A.in1 rfl
    have W := GoesN.zip2 (elts := elts) (x1 := kk) (pos := tpos) D D1 D2
    have hi1 : i < xs.length := (List.getElem?_eq_some_iff.mp hx).1
    have hi2 : i < ys.length := (List.getElem?_eq_some_iff.mp hy).1
    refine W.goes i s _ _ (by omega) ⟨hz, hTI, hTO, t1, t2⟩ fun v h' tk hY st' hk htk => ?_
    obtain ⟨T, u1, u2, rfl, hnew, q1, q2, hT⟩ := hY
    obtain ⟨x', hx', r1⟩ := p1 i u1 q1
    obtain ⟨y', hy', r2⟩ := p2 i u2 q2
    have new : ObjOk X.prog X.w (upd H T (.tup [x', y'])) h' T (.tup [x', y']) := ⟨by show 2 ≤ sizeLine; decide, [u1, u2], .cons r1 (.cons r2 .nil), hT⟩
    have I1 : Inv X pins σ (upd H T (.tup [x', y'])) { s with heap := h', toks := tk } :=
      I.turnedNew (ch := [z, TI, TO, i1, i2]) (fun c o hb q => hk c o (fun q' => hb (by simp at q' ⊢; rcases q' with e | e | e | e <;> simp [e])) q) hf hnew new
    obtain ⟨hz', hTI', hTO', t1', t2'⟩ := st'
    refine ⟨.ref T, _, I1, rfl, ⟨T, x', y', rfl, I.hok.fresh hnew, rfl, fun l hl => by rw [Src.inj I hl ax]; exact hx', fun l hl => by rw [Src.inj I hl ay]; exact hy'⟩, ⟨hz', hTI', hTO', b1 _ _ t1', b2 _ _ t2'⟩, fun c hcm => ?_⟩
    have hlt : c < s.heap.objs.size := by
      have e' : c = z ∨ c = TI ∨ c = TO ∨ c = i1 ∨ c = i2 := by simpa using hcm
      obtain ⟨_, _, hTO2⟩ := hTO
      rcases e' with q | q | q | q | q
      · rw [q]; exact Heap.lt_size hz
      · rw [q]; exact Heap.lt_size hTI
      · rw [q]; exact Heap.lt_size hTO2
      · rw [q]; obtain ⟨_, q', _⟩ := (Src.it_obj h1); exact Heap.lt_size q'
      · rw [q]; obtain ⟨_, q', _⟩ := (Src.it_obj h2); exact Heap.lt_size q'
    rw [upd_ne (Nat.ne_of_lt (Nat.lt_of_lt_of_le hlt hnew))]
    exact (hf c hcm).1
  done := by
    intro X hP hw hK hc i pins s σ H E I hf st hg
    subst hP hw hK
    obtain ⟨hz, hTI, hTO, h1, h2⟩ := st
    obtain ⟨xs, ys, ax, ay, hi⟩ := hg
    obtain ⟨m1, P1, S1, D1, e1, t1, p1, b1⟩ := Src.draws I hc ax h1 n1 X.A.in1 rfl
    obtain ⟨m2, P2, S2, D2, e2, t2, p2, b2⟩ := Src.draws I hc ay h2 n2 X.A.in1 rfl
    have W := GoesN.zip2 (elts := elts) (x1 := kk) (pos := tpos) D D1 D2
    have ei : min m1 m2 = i := by rw [e1, e2, hi]
    refine W.stops s _ _ (by rw [ei]; exact ⟨hz, hTI, hTO, t1, t2⟩) fun h' tk hk htk => ?_
    exact I.turnedL (t' := tk) (ch := [z, TI, TO, i1, i2]) (fun c o hb q => hk c o (fun q' => hb (by simp at q' ⊢; rcases q' with e | e | e | e <;> simp [e])) q) hf
  self := fun A i s Q E st h => wpAny_pyIter_zip st.1 h

/-! ### triples -/
def ItZ3 (K : PySem.W.Frag) (s1 s2 s3 : Src) : It :=
  ⟨fun i H => ∃ xs ys zs x y z, s1.at K H xs ∧ s2.at K H ys ∧ s3.at K H zs ∧ xs[i]? = some x ∧ ys[i]? = some y ∧ zs[i]? = some z,
   fun i H v H' => ∃ T x y z, v = .ref T ∧ H T = none ∧ H' = upd H T (.tup [x, y, z]) ∧ (∀ xs, s1.at K H xs → xs[i]? = some x) ∧ (∀ ys, s2.at K H ys → ys[i]? = some y) ∧ ∀ zs, s3.at K H zs → zs[i]? = some z,
   fun i H => ∃ xs ys zs, s1.at K H xs ∧ s2.at K H ys ∧ s3.at K H zs ∧ i = min (min xs.length ys.length) zs.length⟩
theorem turn_Z3 {P : Program} {w : World} {K : PySem.W.Frag} {elts : List Expr} {kk : Nat} {tpos : Pos} {s1 s2 s3 : Src} {z TI TO i1 i2 i3 : Addr} (D : ZipSep3 z TI TO i1 i2 i3 (i1 :: s1.fp) (i2 :: s2.fp) (i3 :: s3.fp)) (n1 : i1 ∉ s1.fp) (n2 : i2 ∉ s2.fp) (n3 : i3 ∉ s3.fp) :
    Turn P w K (.Tuple elts kk tpos) (ItZ3 K s1 s2 s3) [z, TI, TO, i1, i2, i3] z (fun i h => IsZip h z TI TO .none ∧ IsTupOf3 h TI (.ref i1) (.ref i2) (.ref i3) ∧ (∃ a1 a2 a3, IsTupOf3 h TO a1 a2 a3) ∧ s1.it i1 i h ∧ s2.it i2 i h ∧ s3.it i3 i h) where
  mem := by simp
  obj := fun i h st c hc => by
    obtain ⟨hz, hTI, ⟨x, y, u, hTO⟩, h1, h2, h3⟩ := st
    have e' : c = z ∨ c = TI ∨ c = TO ∨ c = i1 ∨ c = i2 ∨ c = i3 := by simpa using hc
    rcases e' with q | q | q | q | q | q
    · rw [q]; exact ⟨_, hz, fun v q => nomatch q⟩
    · rw [q]; exact ⟨_, hTI, fun v q => nomatch q⟩
    · rw [q]; exact ⟨_, hTO, fun v q => nomatch q⟩
    · rw [q]; exact Src.it_obj h1
    · rw [q]; exact Src.it_obj h2
    · rw [q]; exact Src.it_obj h3
  keep := fun i h h' st k => by
    obtain ⟨hz, hTI, ⟨x, y, u, hTO⟩, h1, h2, h3⟩ := st
    exact ⟨k z (by simp) _ hz, k TI (by simp) _ hTI, ⟨x, y, u, k TO (by simp) _ hTO⟩, Src.it_keep h1 (k i1 (by simp)), Src.it_keep h2 (k i2 (by simp)), Src.it_keep h3 (k i3 (by simp))⟩
  item := by
    intro X hP hw hK hc i pins s σ H E I hf st hg
    subst hP hw hK
    obtain ⟨hz, hTI, hTO, h1, h2, h3⟩ := st
    obtain ⟨xs, ys, zs, x, y, u, ax, ay, az, hx, hy, hu⟩ := hg
    obtain ⟨m1, P1, S1, D1, e1, t1, p1, b1⟩ := Src.draws I hc ax h1 n1 X.A.in1 rfl
    obtain ⟨m2, P2, S2, D2, e2, t2, p2, b2⟩ := Src.draws I hc ay h2 n2 X.A.in1 rfl
    obtain ⟨m3, P3, S3, D3, e3, t3, p3, b3⟩ := Src.draws I hc az h3 n3 X.A.in1 rfl
    have W := GoesN.zip3 (elts := elts) (x1 := kk) (pos := tpos) D D1 D2 D3
    have hi1 : i < xs.length := (List.getElem?_eq_some_iff.mp hx).1
    have hi2 : i < ys.length := (List.getElem?_eq_some_iff.mp hy).1
    have hi3 : i < zs.length := (List.getElem?_eq_some_iff.mp hu).1
    refine W.goes i s _ _ (by omega) ⟨hz, hTI, hTO, t1, t2, t3⟩ fun v h' tk hY st' hk htk => ?_
    obtain ⟨T, u1, u2, u3, rfl, hnew, q1, q2, q3, hT⟩ := hY
    obtain ⟨x', hx', r1⟩ := p1 i u1 q1
    obtain ⟨y', hy', r2⟩ := p2 i u2 q2
    obtain ⟨z', hz', r3⟩ := p3 i u3 q3
    have new : ObjOk X.prog X.w (upd H T (.tup [x', y', z'])) h' T (.tup [x', y', z']) := ⟨by show 3 ≤ sizeLine; decide, [u1, u2, u3], .cons r1 (.cons r2 (.cons r3 .nil)), hT⟩
    have I1 : Inv X pins σ (upd H T (.tup [x', y', z'])) { s with heap := h', toks := tk } :=
      I.turnedNew (ch := [z, TI, TO, i1, i2, i3]) (fun c o hb q => hk c o (fun q' => hb (by simp at q' ⊢; rcases q' with e | e | e | e | e <;> simp [e])) q) hf hnew new
    obtain ⟨hz'', hTI', hTO', t1', t2', t3'⟩ := st'
    refine ⟨.ref T, _, I1, rfl, ⟨T, x', y', z', rfl, I.hok.fresh hnew, rfl, fun l hl => by rw [Src.inj I hl ax]; exact hx', fun l hl => by rw [Src.inj I hl ay]; exact hy', fun l hl => by rw [Src.inj I hl az]; exact hz'⟩, ⟨hz'', hTI', hTO', b1 _ _ t1', b2 _ _ t2', b3 _ _ t3'⟩, fun c hcm => ?_⟩
    have hlt : c < s.heap.objs.size := by
      have e' : c = z ∨ c = TI ∨ c = TO ∨ c = i1 ∨ c = i2 ∨ c = i3 := by simpa using hcm
      obtain ⟨_, _, _, hTO2⟩ := hTO
      rcases e' with q | q | q | q | q | q
      · rw [q]; exact Heap.lt_size hz
      · rw [q]; exact Heap.lt_size hTI
      · rw [q]; exact Heap.lt_size hTO2
      · rw [q]; obtain ⟨_, q', _⟩ := Src.it_obj h1; exact Heap.lt_size q'
      · rw [q]; obtain ⟨_, q', _⟩ := Src.it_obj h2; exact Heap.lt_size q'
      · rw [q]; obtain ⟨_, q', _⟩ := Src.it_obj h3; exact Heap.lt_size q'
    rw [upd_ne (Nat.ne_of_lt (Nat.lt_of_lt_of_le hlt hnew))]
    exact (hf c hcm).1
  done := by
    intro X hP hw hK hc i pins s σ H E I hf st hg
    subst hP hw hK
    obtain ⟨hz, hTI, hTO, h1, h2, h3⟩ := st
    obtain ⟨xs, ys, zs, ax, ay, az, hi⟩ := hg
    obtain ⟨m1, P1, S1, D1, e1, t1, p1, b1⟩ := Src.draws I hc ax h1 n1 X.A.in1 rfl
    obtain ⟨m2, P2, S2, D2, e2, t2, p2, b2⟩ := Src.draws I hc ay h2 n2 X.A.in1 rfl
    obtain ⟨m3, P3, S3, D3, e3, t3, p3, b3⟩ := Src.draws I hc az h3 n3 X.A.in1 rfl
    have W := GoesN.zip3 (elts := elts) (x1 := kk) (pos := tpos) D D1 D2 D3
    have ei : min (min m1 m2) m3 = i := by rw [e1, e2, e3, hi]
    refine W.stops s _ _ (by rw [ei]; exact ⟨hz, hTI, hTO, t1, t2, t3⟩) fun h' tk hk htk => ?_
    exact I.turnedL (t' := tk) (ch := [z, TI, TO, i1, i2, i3]) (fun c o hb q => hk c o (fun q' => hb (by simp at q' ⊢; rcases q' with e | e | e | e | e <;> simp [e])) q) hf
  self := fun A i s Q E st h => wpAny_pyIter_zip st.1 h

/-! ### enumerate -/
def ItE (K : PySem.W.Frag) (s1 : Src) : It :=
  ⟨fun i H => ∃ xs x, s1.at K H xs ∧ xs[i]? = some x,
   fun i H v H' => ∃ T x, v = .ref T ∧ H T = none ∧ H' = upd H T (.tup [.int (i : Nat), x]) ∧ ∀ xs, s1.at K H xs → xs[i]? = some x,
   fun i H => ∃ xs, s1.at K H xs ∧ i = xs.length⟩
theorem turn_E {P : Program} {w : World} {K : PySem.W.Frag} {elts : List Expr} {kk : Nat} {tpos : Pos} {s1 : Src} {e it : Addr} (hei : e ≠ it) (hef : e ∉ s1.fp) (n1 : it ∉ s1.fp) :
    Turn P w K (.Tuple elts kk tpos) (ItE K s1) [e, it] e (fun i h => (∃ old, IsEnum h e it ((i : Nat) : Int) old) ∧ s1.it it i h) where
  mem := by simp
  obj := fun i h st c hc => by
    obtain ⟨⟨old, he⟩, h1⟩ := st
    have e' : c = e ∨ c = it := by simpa using hc
    rcases e' with q | q
    · rw [q]; exact ⟨_, he, fun v q => nomatch q⟩
    · rw [q]; exact Src.it_obj h1
  keep := fun i h h' st k => by
    obtain ⟨⟨old, he⟩, h1⟩ := st
    exact ⟨⟨old, k e (by simp) _ he⟩, Src.it_keep h1 (k it (by simp))⟩
  item := by
    intro X hP hw hK hc i pins s σ H E I hf st hg
    subst hP hw hK
    obtain ⟨he, h1⟩ := st
    obtain ⟨xs, x, ax, hx⟩ := hg
    obtain ⟨m1, P1, S1, D1, e1, t1, p1, b1⟩ := Src.draws I hc ax h1 n1 X.A.in1 rfl
    have W := GoesN.enumFrom (elts := elts) (x1 := kk) (pos := tpos) 0 D1 e hei (by simp; exact ⟨hei, hef⟩) (by simp)
    have hi1 : i < xs.length := (List.getElem?_eq_some_iff.mp hx).1
    have z0 : ∀ j : Nat, (0 : Int) + (j : Int) = (j : Int) := fun j => Int.zero_add _
    refine W.goes i s _ _ (by omega) ⟨by rw [z0]; exact he, t1⟩ fun v h' tk hY st' hk htk => ?_
    obtain ⟨T, u, u1, rfl, hnew, q1, hT⟩ := hY
    obtain ⟨x', hx', r1⟩ := p1 i u1 q1
    rw [z0] at hT
    have new : ObjOk X.prog X.w (upd H T (.tup [.int (i : Nat), x'])) h' T (.tup [.int (i : Nat), x']) := ⟨by show 2 ≤ sizeLine; decide, [.int i u, u1], .cons ⟨_, rfl⟩ (.cons r1 .nil), hT⟩
    have I1 : Inv X pins σ (upd H T (.tup [.int (i : Nat), x'])) { s with heap := h', toks := tk } :=
      I.turnedNew (ch := [e, it]) (fun c o hb q => hk c o hb q) hf hnew new
    obtain ⟨he', t1'⟩ := st'
    rw [z0] at he'
    refine ⟨.ref T, _, I1, rfl, ⟨T, x', rfl, I.hok.fresh hnew, rfl, fun l hl => by rw [Src.inj I hl ax]; exact hx'⟩, ⟨he', b1 _ _ t1'⟩, fun c hcm => ?_⟩
    have hlt : c < s.heap.objs.size := by
      have e' : c = e ∨ c = it := by simpa using hcm
      obtain ⟨_, he2⟩ := he
      rcases e' with q | q
      · rw [q]; exact Heap.lt_size he2
      · rw [q]; obtain ⟨_, q', _⟩ := Src.it_obj h1; exact Heap.lt_size q'
    rw [upd_ne (Nat.ne_of_lt (Nat.lt_of_lt_of_le hlt hnew))]
    exact (hf c hcm).1
  done := by
    intro X hP hw hK hc i pins s σ H E I hf st hg
    subst hP hw hK
    obtain ⟨he, h1⟩ := st
    obtain ⟨xs, ax, hi⟩ := hg
    obtain ⟨m1, P1, S1, D1, e1, t1, p1, b1⟩ := Src.draws I hc ax h1 n1 X.A.in1 rfl
    have W := GoesN.enumFrom (elts := elts) (x1 := kk) (pos := tpos) 0 D1 e hei (by simp; exact ⟨hei, hef⟩) (by simp)
    have ei : m1 = i := by rw [e1, hi]
    refine W.stops s _ _ (by rw [ei]; exact ⟨by rw [Int.zero_add]; exact he, t1⟩) fun h' tk hk htk => ?_
    exact I.turnedL (t' := tk) (ch := [e, it]) (fun c o hb q => hk c o hb q) hf
  self := fun A i s Q E st h => let ⟨⟨_, he⟩, _⟩ := st; wpAny_pyIter_enum he h
set_option maxHeartbeats 1000000 in
theorem meets_enum1 {v : Value} {o : Obj} {H : Heap → Prop} (B : Begins v o H) :
    Meets (Builtin.«enumerate.__new__» ⟨[.type "enumerate", v], []⟩) (fun _ R s => H s.heap ∧ R (.ok (.ret (.ref (s.heap.push o).objs.size)))
      { s with heap := (s.heap.push o).push { cls := .type "enumerate", data := .fields #[.none, .bool false, .ref s.heap.objs.size, rawInt 0, .none, .none] } }) :=
  .of_wp fun prog w A R s h => by
    obtain ⟨hp, gs, dr, tk, os⟩ := s
    obtain ⟨h1, h⟩ := h
    have hsub := sub_enumerate
    have it : ∀ {A' : Around} {E : Value → Shared → Prop} {Q : Value → Shared → Prop}, Q (.ref hp.objs.size) ⟨hp.push o, gs, dr, tk, os⟩ → wpAny (model prog w) A' (pyIter v) Q E ⟨hp, gs, dr, tk, os⟩ := fun q => B.iter prog w _ _ ⟨hp, gs, dr, tk, os⟩ _ h1 q
    wp_walk using it
    refine wpAny_stack_any fun st => wpAny_pure ?_
    split
    · rename_i c _ _ _ _ _
      cases (c == Value.type "enumerate") <;> (wp_walk using it; exact ⟨_, rfl, h⟩)
    · wp_walk using it
      exact ⟨_, rfl, h⟩
theorem enum1 {prog : Program} {w : World} {A : Around} {E : Value → Shared → Prop} {s : Shared} {v : Value} {o : Obj} {H : Heap → Prop} {Q : Value → Shared → Prop} (B : Begins v o H) (h1 : H s.heap)
    (h : ∀ h', IsEnum h' (s.heap.objs.size + 1) s.heap.objs.size 0 .none → h'.get? s.heap.objs.size = some o → (∀ b o, s.heap.get? b = some o → h'.get? b = some o) → Q (.ref (s.heap.objs.size + 1)) { s with heap := h' }) :
    wpAny (model prog w) A (call (.type "enumerate") [v]) Q E s := by
  refine callType_new F.called_enumerate (by decide) (F.typeCall_enumerate_1 _) (F.newCall_enumerate_1 _) (fun obj => F.args_object_init_2 obj _) F.entry_enumerate_new (meets_enum1 B) ⟨h1, ?_⟩
  have z1 : (s.heap.push o).objs.size = s.heap.objs.size + 1 := Heap.size_push ..
  show _ ∧ _
  rw [z1]
  have he : IsEnum ((s.heap.push o).push { cls := .type "enumerate", data := .fields #[.none, .bool false, .ref s.heap.objs.size, rawInt 0, .none, .none] }) (s.heap.objs.size + 1) s.heap.objs.size 0 .none := by
    have g := Heap.get?_push_size (s.heap.push o) (o := { cls := .type "enumerate", data := .fields #[.none, .bool false, .ref s.heap.objs.size, rawInt 0, .none, .none] }) rfl
    rwa [z1] at g
  exact ⟨⟨_, he, rfl⟩, h _ he (Heap.get?_push_of_some _ (Heap.get?_push_size _ B.free)) fun b o x => Heap.get?_push_of_some _ (Heap.get?_push_of_some _ x)⟩
end DL
set_option Elab.async false
set_option linter.all false
set_option maxRecDepth 100000
/-! DL: the operations of the data. -/
namespace DL
open PySem PySem.Spec PyProof.Rows L2
theorem GOp.p1 {K : PySem.W.Frag} {g : List PD → Option Hd} {x : V} {H : Hp} {Q : VK} (h : GOp K g [x] H Q) :
    ∃ F d h, Same F H ∧ Rt K F H x d ∧ g [d] = some h ∧ ∀ v F' H', Grow F H F' H' → GvOk K F' H H' v h → Q v H' := by
  obtain ⟨F, ds, h, s, r, e, q⟩ := h
  cases r with
  | cons r1 r2 => cases r2; exact ⟨F, _, h, s, r1, e, q⟩
theorem GOp.p2 {K : PySem.W.Frag} {g : List PD → Option Hd} {x y : V} {H : Hp} {Q : VK} (h : GOp K g [x, y] H Q) :
    ∃ F d d' h, Same F H ∧ Rt K F H x d ∧ Rt K F H y d' ∧ g [d, d'] = some h ∧ ∀ v F' H', Grow F H F' H' → GvOk K F' H H' v h → Q v H' := by
  obtain ⟨F, ds, h, s, r, e, q⟩ := h
  cases r with
  | cons r1 r2 =>
    cases r2 with
    | cons r2 r3 => cases r3; exact ⟨F, _, _, h, s, r1, r2, e, q⟩
theorem GOp.pn {K : PySem.W.Frag} {g : List PD → Option Hd} {xs : List V} {H : Hp} {Q : VK} (h : GOp K g xs H Q) :
    (∃ x, xs = [x]) ∨ (∃ x y, xs = [x, y]) ∨ ∃ F ds h, Same F H ∧ RtA K F H xs ds ∧ g ds = some h ∧ ds.length = xs.length ∧ ds.length ≠ 1 ∧ ds.length ≠ 2 := by
  obtain ⟨F, ds, h, s, r, e, q⟩ := h
  cases r with
  | nil => exact .inr (.inr ⟨F, _, h, s, .nil, e, rfl, by simp, by simp⟩)
  | cons r1 r2 =>
    cases r2 with
    | nil => exact .inl ⟨_, rfl⟩
    | cons r2 r3 =>
      cases r3 with
      | nil => exact .inr (.inl ⟨_, _, rfl⟩)
      | cons r3 r4 =>
        have hl : ∀ {vs : List V} {ds : List PD}, RtA K F H vs ds → ds.length = vs.length := fun {vs ds} q => by
          induction q with
          | nil => rfl
          | cons _ _ ih => rw [List.length_cons, List.length_cons, ih]
        exact .inr (.inr ⟨F, _, h, s, .cons r1 (.cons r2 (.cons r3 r4)), e, by simp [hl r4], by simp, by simp⟩)
theorem Rt.int {K : PySem.W.Frag} {F H : Hp} {v : V} {i : Int} (h : Rt K F H v (.int i)) : v = .int i := by
  have h' : Rp K F v (.int i) := h
  cases h'; rfl
theorem Rt.bl {K : PySem.W.Frag} {F H : Hp} {v : V} {i : Bool} (h : Rt K F H v (.bool i)) : v = .bl i := by
  have h' : Rp K F v (.bool i) := h
  cases h'; rfl
theorem Rt.str {K : PySem.W.Frag} {F H : Hp} {v : V} {i : Str} (h : Rt K F H v (.str i)) : v = .str i := by
  have h' : Rp K F v (.str i) := h
  cases h'; rfl
theorem Rt.non {K : PySem.W.Frag} {F H : Hp} {v : V} (h : Rt K F H v .none) : v = .non := by
  have h' : Rp K F v .none := h
  cases h'; rfl
theorem Rt.tup {K : PySem.W.Frag} {F H : Hp} {v : V} {ds : List PD} (h : Rt K F H v (.tuple ds)) : ∃ a xs, v = .ref a ∧ F a = some (.tup xs) ∧ RpA K F xs ds := by
  have h' : Rp K F v (.tuple ds) := h
  cases h' with
  | tup a b => exact ⟨_, _, rfl, a, b⟩
theorem sqL_of {K : PySem.W.Frag} {H : Hp} {a : Addr} {xs : List V} (h : H a = some (.lst xs)) : SqL K H a xs := .inl (.inl h)
section
variable {K : PySem.W.Frag} {F H : Hp} {Q : VK}
theorem qi (s : Same F H) {i : Int} (q : ∀ v F' H', Grow F H F' H' → GvOk K F' H H' v (.dat (.int i)) → Q v H') : Q (.int i) H := GOp.dat s q (.int i)
theorem qb (s : Same F H) {i : Bool} (q : ∀ v F' H', Grow F H F' H' → GvOk K F' H H' v (.dat (.bool i)) → Q v H') : Q (.bl i) H := GOp.dat s q (.bl i)
theorem qs (s : Same F H) {i : Str} (q : ∀ v F' H', Grow F H F' H' → GvOk K F' H H' v (.dat (.str i)) → Q v H') : Q (.str i) H := GOp.dat s q (.str i)
end

/-! ### binary operators -/
def fitsLine (n : Nat) : Bool := decide (n ≤ sizeLine)
theorem fitsLine_of {n : Nat} (h : n ≤ 16777216) : fitsLine n = true := by
  unfold fitsLine
  rw [sizeLine_eq]
  exact decide_eq_true (by omega)
theorem fitsLine_le {n : Nat} (h : fitsLine n = true) : n ≤ sizeLine := of_decide_eq_true h
def gAdd : List PD → Option Hd
  | [.int i, .int j] => some (.dat (.int (i + j)))
  | [.str x, .str y] => if fitsLine (x.length + y.length) = true then some (.dat (.str (x ++ y))) else none
  | [.list x, .list y] => if fitsLine (x.length + y.length) = true then some (.frL (x ++ y)) else none
  | [.tuple x, .tuple y] => if fitsLine (x.length + y.length) = true then some (.dat (.tuple (x ++ y))) else none
  | _ => none
theorem same_sq {K : PySem.W.Frag} {F H : Hp} (s : Same F H) {a : Addr} {xs : List V} (h : SqT K F a xs) : SqT K H a xs := same_tup s h
variable {X : Cx}
theorem ho_add : OpR X (binaryOp .Add) (GR2 X.K gAdd) := by
  intro pins s σ H x y v u Q I rx ry h
  obtain ⟨F, d, d', h, sm, r1, r2, e, q⟩ := GOp.p2 h
  unfold gAdd at e
  split at e
  · next i j ee =>
    cases e; cases ee
    cases Rt.int r1; cases Rt.int r2
    exact op_add pins s σ H _ _ v u Q I rx ry ⟨i, j, rfl, rfl, qi sm q⟩
  · next x' y' ee =>
    split at e <;> cases e
    next hz =>
    cases ee
    cases Rt.str r1; cases Rt.str r2
    exact op_add_str pins s σ H _ _ v u Q I rx ry ⟨x', y', rfl, rfl, fitsLine_le hz, qs sm q⟩
  · next x' y' ee =>
    split at e <;> cases e
    next hz =>
    cases ee
    obtain ⟨a, xs, rfl, ha, pa⟩ := r1
    obtain ⟨b, ys, rfl, hb, pb⟩ := r2
    exact op_cat pins s σ H _ _ v u Q I rx ry ⟨a, b, xs, ys, rfl, rfl, ha, hb, by rw [pa.len, pb.len]; exact fitsLine_le hz, fun p np => GOp.newL sm q (pa.app pb) np⟩
  · next x' y' ee =>
    split at e <;> cases e
    next hz =>
    cases ee
    obtain ⟨a, xs, rfl, ha, pa⟩ := r1.tup
    obtain ⟨b, ys, rfl, hb, pb⟩ := r2.tup
    refine op_catA pins s σ H _ _ v u Q I rx ry ⟨a, b, xs, ys, rfl, rfl, .inl (.inl (sm _ _ ha)), .inl (.inl (sm _ _ hb)), by rw [pa.len, pb.len]; exact fitsLine_le hz, fun e => ?_, fun _ e => ?_, fun _ _ p np => GOp.newT sm q (pa.app pb) np⟩
    · subst e
      cases pa
      exact GOp.dat sm q (.tup hb pb)
    · subst e
      cases pb
      rw [List.append_nil] at q
      exact GOp.dat sm q (.tup ha pa)
  · cases e
def gSub : List PD → Option Hd
  | [.int i, .int j] => some (.dat (.int (i - j)))
  | _ => none
theorem ho_sub : OpR X (binaryOp .Sub) (GR2 X.K gSub) := by
  intro pins s σ H x y v u Q I rx ry h
  obtain ⟨F, d, d', h, sm, r1, r2, e, q⟩ := GOp.p2 h
  unfold gSub at e
  split at e
  · next i j ee =>
    cases e; cases ee
    cases Rt.int r1; cases Rt.int r2
    exact op_sub pins s σ H _ _ v u Q I rx ry ⟨i, j, rfl, rfl, qi sm q⟩
  · cases e
noncomputable def mulOk (i j : Int) : Bool := cdec ((-18446744073709551616 < i ∧ i < 18446744073709551616) ∨ (-18446744073709551616 < j ∧ j < 18446744073709551616))
noncomputable def repOk (n : Nat) (k : Int) : Bool := cdec (k < 9223372036854775808 ∧ -9223372036854775808 ≤ k ∧ n * k.toNat ≤ sizeLine)
noncomputable def gMul : List PD → Option Hd
  | [.int i, .int j] => if mulOk i j = true then some (.dat (.int (i * j))) else none
  | [.list x, .int k] => if repOk x.length k = true then some (.frL (List.replicate k.toNat x).flatten) else none
  | _ => none
theorem ho_mul : OpR X (binaryOp .Mult) (GR2 X.K gMul) := by
  intro pins s σ H x y v u Q I rx ry h
  obtain ⟨F, d, d', h, sm, r1, r2, e, q⟩ := GOp.p2 h
  unfold gMul at e
  split at e
  · next i j ee =>
    split at e <;> cases e
    next hm =>
    cases ee
    cases Rt.int r1; cases Rt.int r2
    refine op_mul pins s σ H _ _ v u Q I rx ry ⟨i, j, rfl, rfl, ?_, qi sm q⟩
    have := cdec_iff.mp hm
    unfold CMul
    omega
  · next x' k ee =>
    split at e <;> cases e
    next hm =>
    cases ee
    obtain ⟨a, xs, rfl, ha, pa⟩ := r1
    cases Rt.int r2
    have hm := cdec_iff.mp hm
    exact op_rep pins s σ H _ _ v u Q I rx ry ⟨a, k, xs, rfl, rfl, ha, by omega, by omega, by rw [pa.len]; exact hm.2.2, fun p np => GOp.newL sm q (pa.rep _) np⟩
  · cases e
noncomputable def divOk (j : Int) : Bool := cdec (0 < j ∧ j < 18446744073709551616)
noncomputable def gDiv : List PD → Option Hd
  | [.int i, .int j] => if divOk j = true then some (.dat (.int (i / j))) else none
  | _ => none
theorem ho_div : OpR X (binaryOp .FloorDiv) (GR2 X.K gDiv) := by
  intro pins s σ H x y v u Q I rx ry h
  obtain ⟨F, d, d', h, sm, r1, r2, e, q⟩ := GOp.p2 h
  unfold gDiv at e
  split at e
  · next i j ee =>
    split at e <;> cases e
    next hm =>
    cases ee
    cases Rt.int r1; cases Rt.int r2
    have := cdec_iff.mp hm
    exact op_fdivW pins s σ H _ _ v u Q I rx ry ⟨i, j, rfl, rfl, wide_div (b := 64) this.1 (by omega) (by omega) (by omega), qi sm q⟩
  · cases e
def gMod : List PD → Option Hd
  | [.int i, .int j] => if 0 < j then some (.dat (.int (i % j))) else none
  | _ => none
theorem ho_mod : OpR X (binaryOp .Mod) (GR2 X.K gMod) := by
  intro pins s σ H x y v u Q I rx ry h
  obtain ⟨F, d, d', h, sm, r1, r2, e, q⟩ := GOp.p2 h
  unfold gMod at e
  split at e
  · next i j ee =>
    split at e <;> cases e
    next hm =>
    cases ee
    cases Rt.int r1; cases Rt.int r2
    exact op_mod pins s σ H _ _ v u Q I rx ry ⟨i, j, rfl, rfl, hm, qi sm q⟩
  · cases e
noncomputable def powOk (i j : Int) : Bool := cdec (0 ≤ j ∧ j ≤ 1000000 ∧ i.natAbs < 18446744073709551616)
noncomputable def gPow : List PD → Option Hd
  | [.int i, .int j] => if powOk i j = true then some (.dat (.int (i ^ j.toNat))) else none
  | _ => none
theorem ho_pow : OpR X (binaryOp .Pow) (GR2 X.K gPow) := by
  intro pins s σ H x y v u Q I rx ry h
  obtain ⟨F, d, d', h, sm, r1, r2, e, q⟩ := GOp.p2 h
  unfold gPow at e
  split at e
  · next i j ee =>
    split at e <;> cases e
    next hm =>
    cases ee
    cases Rt.int r1; cases Rt.int r2
    have := cdec_iff.mp hm
    exact op_pow pins s σ H _ _ v u Q I rx ry ⟨i, j, rfl, rfl, by unfold CPow; omega, qi sm q⟩
  · cases e
def gNeg : List PD → Option Hd
  | [.int i] => some (.dat (.int (-i)))
  | _ => none
theorem ho_neg : UnR X (unaryOp .USub) (fun x H Q => GOp X.K gNeg [x] H Q) := by
  intro pins s σ H x v Q I rx h
  obtain ⟨F, d, h, sm, r1, e, q⟩ := GOp.p1 h
  unfold gNeg at e
  split at e
  · next i ee =>
    cases e; cases ee
    cases Rt.int r1
    exact un_neg pins s σ H _ v Q I rx ⟨i, rfl, qi sm q⟩
  · cases e

/-! ### comparisons -/
def eqD : PD → PD → Option Bool
  | .int i, .int j => some (decide (i = j))
  | .bool i, .bool j => some (decide (i = j))
  | .str i, .str j => some (decide (i = j))
  | .none, .none => some true
  | _, _ => none
def gEq : List PD → Option Hd
  | [a, b] => (eqD a b).map fun c => .dat (.bool c)
  | _ => none
def gNe : List PD → Option Hd
  | [a, b] => (eqD a b).map fun c => .dat (.bool (!c))
  | _ => none
theorem eqD_rt {K : PySem.W.Frag} {F H : Hp} {x y : V} {d d' : PD} {c : Bool} (r1 : Rt K F H x d) (r2 : Rt K F H y d') (e : eqD d d' = some c) : scal x y = true ∧ decide (x = y) = c := by
  unfold eqD at e
  split at e
  · cases e; cases Rt.int r1; cases Rt.int r2
    exact ⟨rfl, by simp⟩
  · cases e; cases Rt.bl r1; cases Rt.bl r2
    exact ⟨rfl, by simp⟩
  · cases e; cases Rt.str r1; cases Rt.str r2
    exact ⟨rfl, by simp⟩
  · cases e; cases Rt.non r1; cases Rt.non r2
    exact ⟨rfl, by simp⟩
  · cases e
theorem ho_eq : OpR X (compareOp .Eq) (GR2 X.K gEq) := by
  intro pins s σ H x y v u Q I rx ry h
  obtain ⟨F, d, d', h, sm, r1, r2, e, q⟩ := GOp.p2 h
  simp only [gEq, Option.map_eq_some_iff] at e
  obtain ⟨c, e1, rfl⟩ := e
  obtain ⟨z1, z2⟩ := eqD_rt r1 r2 e1
  exact op_eq pins s σ H _ _ v u Q I rx ry ⟨z1, by rw [z2]; exact qb sm q⟩
theorem ho_ne : OpR X (compareOp .NotEq) (GR2 X.K gNe) := by
  intro pins s σ H x y v u Q I rx ry h
  obtain ⟨F, d, d', h, sm, r1, r2, e, q⟩ := GOp.p2 h
  simp only [gNe, Option.map_eq_some_iff] at e
  obtain ⟨c, e1, rfl⟩ := e
  obtain ⟨z1, z2⟩ := eqD_rt r1 r2 e1
  exact op_ne pins s σ H _ _ v u Q I rx ry ⟨z1, by rw [z2]; exact qb sm q⟩
def gLt : List PD → Option Hd
  | [.int i, .int j] => some (.dat (.bool (decide (i < j))))
  | _ => none
def gLe : List PD → Option Hd
  | [.int i, .int j] => some (.dat (.bool (decide (i ≤ j))))
  | _ => none
def gGt : List PD → Option Hd
  | [.int i, .int j] => some (.dat (.bool (decide (j < i))))
  | _ => none
def gGe : List PD → Option Hd
  | [.int i, .int j] => some (.dat (.bool (decide (j ≤ i))))
  | _ => none
theorem ho_lt : OpR X (compareOp .Lt) (GR2 X.K gLt) := by
  intro pins s σ H x y v u Q I rx ry h
  obtain ⟨F, d, d', h, sm, r1, r2, e, q⟩ := GOp.p2 h
  unfold gLt at e
  split at e
  · next i j ee =>
    cases e; cases ee
    cases Rt.int r1; cases Rt.int r2
    exact op_lt pins s σ H _ _ v u Q I rx ry ⟨i, j, rfl, rfl, qb sm q⟩
  · cases e
theorem ho_le : OpR X (compareOp .LtE) (GR2 X.K gLe) := by
  intro pins s σ H x y v u Q I rx ry h
  obtain ⟨F, d, d', h, sm, r1, r2, e, q⟩ := GOp.p2 h
  unfold gLe at e
  split at e
  · next i j ee =>
    cases e; cases ee
    cases Rt.int r1; cases Rt.int r2
    exact op_le pins s σ H _ _ v u Q I rx ry ⟨i, j, rfl, rfl, qb sm q⟩
  · cases e
theorem ho_gt : OpR X (compareOp .Gt) (GR2 X.K gGt) := by
  intro pins s σ H x y v u Q I rx ry h
  obtain ⟨F, d, d', h, sm, r1, r2, e, q⟩ := GOp.p2 h
  unfold gGt at e
  split at e
  · next i j ee =>
    cases e; cases ee
    cases Rt.int r1; cases Rt.int r2
    exact op_gt pins s σ H _ _ v u Q I rx ry ⟨i, j, rfl, rfl, qb sm q⟩
  · cases e
theorem ho_ge : OpR X (compareOp .GtE) (GR2 X.K gGe) := by
  intro pins s σ H x y v u Q I rx ry h
  obtain ⟨F, d, d', h, sm, r1, r2, e, q⟩ := GOp.p2 h
  unfold gGe at e
  split at e
  · next i j ee =>
    cases e; cases ee
    cases Rt.int r1; cases Rt.int r2
    exact op_ge pins s σ H _ _ v u Q I rx ry ⟨i, j, rfl, rfl, qb sm q⟩
  · cases e
/-- is None, is True, is False -/
def isNon : PD → Bool
  | .none => true
  | _ => false
def isD : PD → PD → Option Bool
  | d, .none => some (isNon d)
  | .bool i, .bool j => some (decide (i = j))
  | _, _ => none
def gIs : List PD → Option Hd
  | [a, b] => (isD a b).map fun c => .dat (.bool c)
  | _ => none
def gIsNot : List PD → Option Hd
  | [a, b] => (isD a b).map fun c => .dat (.bool (!c))
  | _ => none
theorem isNon_rt {K : PySem.W.Frag} {F H : Hp} {x : V} {d : PD} (r : Rt K F H x d) : decide (x = .non) = isNon d := by
  cases d with
  | none => cases Rt.non r; simp [isNon]
  | bool b => cases Rt.bl r; simp [isNon]
  | int b => cases Rt.int r; simp [isNon]
  | str b => cases Rt.str r; simp [isNon]
  | list b => obtain ⟨a, xs, rfl, _⟩ := r; simp [isNon]
  | tuple b => obtain ⟨a, xs, rfl, _⟩ := r.tup; simp [isNon]
  | dict b => obtain ⟨a, xs, rfl, _⟩ := r; simp [isNon]
theorem ho_is : OpR X (compareOp .Is) (GR2 X.K gIs) := by
  intro pins s σ H x y v u Q I rx ry h
  obtain ⟨F, d, d', h, sm, r1, r2, e, q⟩ := GOp.p2 h
  simp only [gIs, Option.map_eq_some_iff] at e
  obtain ⟨c, e1, rfl⟩ := e
  unfold isD at e1
  split at e1
  · cases e1
    cases Rt.non r2
    exact op_isN pins s σ H _ _ v u Q I rx ry ⟨rfl, by rw [isNon_rt r1]; exact qb sm q⟩
  · cases e1
    cases Rt.bl r1; cases Rt.bl r2
    exact op_isBl pins s σ H _ _ v u Q I rx ry ⟨_, _, rfl, rfl, qb sm q⟩
  · cases e1
theorem ho_isNot : OpR X (compareOp .IsNot) (GR2 X.K gIsNot) := by
  intro pins s σ H x y v u Q I rx ry h
  obtain ⟨F, d, d', h, sm, r1, r2, e, q⟩ := GOp.p2 h
  simp only [gIsNot, Option.map_eq_some_iff] at e
  obtain ⟨c, e1, rfl⟩ := e
  unfold isD at e1
  split at e1
  · cases e1
    cases Rt.non r2
    exact op_notN pins s σ H _ _ v u Q I rx ry ⟨rfl, by rw [isNon_rt r1]; exact qb sm q⟩
  · cases e1
    cases Rt.bl r1; cases Rt.bl r2
    exact op_notBl pins s σ H _ _ v u Q I rx ry ⟨_, _, rfl, rfl, qb sm q⟩
  · cases e1
/-- x in a list or tuple of scalars -/
def flatD : PD → Bool
  | .none => true
  | .bool _ => true
  | .int _ => true
  | .str _ => true
  | _ => false
def bothD : PD → PD → Bool
  | .none, .none => true
  | .bool a, .bool b => a == b
  | .int a, .int b => a == b
  | .bool a, .int b => (if a = true then 1 else 0) == b
  | .int a, .bool b => a == if b = true then 1 else 0
  | .str a, .str b => a == b
  | _, _ => false
def inD (neg : Bool) : List PD → Option Hd
  | [d, .tuple ds] => if flatD d = true ∧ ds.all flatD = true then some (.dat (.bool (if neg = true then !(ds.any fun y => bothD y d) else ds.any fun y => bothD y d))) else none
  | [d, .list ds] => if flatD d = true ∧ ds.all flatD = true then some (.dat (.bool (if neg = true then !(ds.any fun y => bothD y d) else ds.any fun y => bothD y d))) else none
  | _ => none
end DL
set_option Elab.async false
set_option linter.all false
set_option maxRecDepth 100000
/-! DL: in, subscripts, slices, builtin calls. -/
namespace DL
open PySem PySem.Spec PyProof.Rows L2
variable {X : Cx}
theorem Rp.flat {K : PySem.W.Frag} {F : Hp} {v : V} {d : PD} (r : Rp K F v d) (h : flatD d = true) : flatV v = true := by
  cases r <;> first | rfl | cases h
theorem Rt.flat {K : PySem.W.Frag} {F H : Hp} {v : V} {d : PD} (r : Rt K F H v d) (h : flatD d = true) : flatV v = true := by
  cases d with
  | none => exact Rp.flat (F := F) (K := K) (d := .none) r h
  | bool b => exact Rp.flat (F := F) (K := K) (d := .bool b) r h
  | int b => exact Rp.flat (F := F) (K := K) (d := .int b) r h
  | str b => exact Rp.flat (F := F) (K := K) (d := .str b) r h
  | list b => cases h
  | tuple b => cases h
  | dict b => cases h
theorem Rt.plain {K : PySem.W.Frag} {F H : Hp} {v : V} {d : PD} (r : Rt K F H v d) (h : flatD d = true) : Rp K F v d := by
  cases d with
  | list b => cases h
  | tuple b => cases h
  | dict b => cases h
  | _ => exact r
theorem both_rp {K : PySem.W.Frag} {F : Hp} {v w : V} {d e : PD} (r : Rp K F v d) (s : Rp K F w e) (h : flatD d = true) (h' : flatD e = true) : eqV v w = bothD d e := by
  cases r <;> cases s <;> first | rfl | cases h | cases h'
theorem in_rp {K : PySem.W.Frag} {F : Hp} {v : V} {d : PD} (r : Rp K F v d) (h : flatD d = true) : ∀ {vs : List V} {ds : List PD}, RpA K F vs ds → ds.all flatD = true → vs.all flatV = true ∧ inV v vs = ds.any fun y => bothD y d
  | _, _, .nil, _ => ⟨rfl, rfl⟩
  | _, _, .cons (v := w) (vs := ws) (d := e) (ds := es) q qs, z => by
    rw [List.all_cons, Bool.and_eq_true] at z
    obtain ⟨i1, i2⟩ := in_rp r h qs z.2
    refine ⟨by rw [List.all_cons, q.flat z.1, i1]; rfl, ?_⟩
    show (eqV w v || inV v ws) = (bothD e d || _)
    rw [both_rp q r z.1 h, i2]
theorem ho_inD {neg : Bool} {op : CmpOp} (ho : OpR X (compareOp op) (rIn X.K neg)) : OpR X (compareOp op) (GR2 X.K (inD neg)) := by
  intro pins s σ H x y v u Q I rx ry h
  obtain ⟨F, d, d', h, sm, r1, r2, e, q⟩ := GOp.p2 h
  unfold inD at e
  split at e
  · next d0 ds ee =>
    split at e <;> cases e
    next hz =>
    cases ee
    obtain ⟨a, xs, rfl, ha, pa⟩ := r2.tup
    obtain ⟨i1, i2⟩ := in_rp (r1.plain hz.1) hz.1 pa hz.2
    exact ho pins s σ H _ _ v u Q I rx ry ⟨a, xs, rfl, .inr (.inl (.inl (sm _ _ ha))), r1.flat hz.1, i1, by rw [i2]; exact qb sm q⟩
  · next d0 ds ee =>
    split at e <;> cases e
    next hz =>
    cases ee
    obtain ⟨a, xs, rfl, ha, pa⟩ := r2
    obtain ⟨i1, i2⟩ := in_rp (r1.plain hz.1) hz.1 pa hz.2
    exact ho pins s σ H _ _ v u Q I rx ry ⟨a, xs, rfl, .inl (.inl (.inl ha)), r1.flat hz.1, i1, by rw [i2]; exact qb sm q⟩
  · cases e
theorem ho_in : OpR X (compareOp .In) (GR2 X.K (inD false)) := ho_inD op_in_seq
theorem ho_notIn : OpR X (compareOp .NotIn) (GR2 X.K (inD true)) := ho_inD op_notIn_seq

/-! ### subscripts -/
def gIx : List PD → Option Hd
  | [.list ds, .int i] => (atI ds i).map .dat
  | [.tuple ds, .int i] => (atI ds i).map .dat
  | [.str z, .int i] => if fitsLine z.length = true then (atI z.cps.toList i).map fun c => .dat (.str ⟨#[c]⟩) else none
  | _ => none
theorem RpA.at {K : PySem.W.Frag} {F : Hp} {vs : List V} {ds : List PD} {i : Int} {d : PD} (r : RpA K F vs ds) (e : atI ds i = some d) : ∃ v, atI vs i = some v ∧ Rp K F v d := by
  unfold atI at e ⊢
  rw [r.len]
  cases h : ixN ds.length i with
  | none => rw [h] at e; cases e
  | some j => rw [h] at e; exact r.get (i := j) e
theorem ho_ix : IxR X (GR2 X.K gIx) := by
  intro value slice pins s σ H x y v u Q I rx ry h hs
  obtain ⟨F, d, d', h, sm, r1, r2, e, q⟩ := GOp.p2 h
  unfold gIx at e
  split at e
  · next ds i ee =>
    cases ee
    simp only [Option.map_eq_some_iff] at e
    obtain ⟨d, e1, rfl⟩ := e
    obtain ⟨a, xs, rfl, ha, pa⟩ := r1
    cases Rt.int r2
    obtain ⟨w, e2, rw'⟩ := pa.at e1
    exact ix_seq value slice pins s σ H _ _ v u Q I rx ry (.inl ⟨a, xs, i, w, rfl, rfl, sqL_of ha, e2, GOp.dat sm q rw'⟩) hs
  · next ds i ee =>
    cases ee
    simp only [Option.map_eq_some_iff] at e
    obtain ⟨d, e1, rfl⟩ := e
    obtain ⟨a, xs, rfl, ha, pa⟩ := r1.tup
    cases Rt.int r2
    obtain ⟨w, e2, rw'⟩ := pa.at e1
    exact ix_seq value slice pins s σ H _ _ v u Q I rx ry (.inr (.inl ⟨a, xs, i, w, rfl, rfl, .inl (.inl (sm _ _ ha)), e2, GOp.dat sm q rw'⟩)) hs
  · next z i ee =>
    cases ee
    split at e <;> try cases e
    next hz =>
    simp only [Option.map_eq_some_iff] at e
    obtain ⟨c, e1, rfl⟩ := e
    cases Rt.str r1
    cases Rt.int r2
    exact ix_seq value slice pins s σ H _ _ v u Q I rx ry (.inr (.inr ⟨z, i, c, rfl, rfl, fitsLine_le hz, e1, qs sm q⟩)) hs
  · cases e

/-! ### slices -/
def tDO (K : PySem.W.Frag) (f : M (Option Int)) : TO := fun σ H Q => ∃ (S : Sx) (b : Option Int) (ρ' : En), S.σ = σ ∧ S.H = H ∧ Rel K S ∧ f S.ρ = some (b, ρ') ∧
  ∀ (T : Sx), T.σ = σ → T.ρ = ρ' → Rel K T → Kp S T → Q b T.H
def oNo : M (Option Int) := pur none
def oSo (f : M Hd) : M (Option Int) := bnd f fun h ρ => match res ρ h with
  | some (.int i) => some (some i, ρ)
  | _ => none
theorem po_weak {e : Option Expr} {t t' : TO} (h : PO X e t) (w : ∀ σ H Q, t' σ H Q → t σ H Q) : PO X e t' := ⟨fun pins s σ H Q I q => h.run pins s σ H Q I (w σ H Q q)⟩
theorem o_no : PO X none (tDO X.K oNo) := po_weak po_none fun σ H Q ⟨S, b, ρ', e1, e2, R, e, q⟩ => by
  subst e1; subst e2
  obtain ⟨rfl, rfl⟩ := pur_some e
  exact q S rfl rfl R (Kp.refl S)
theorem o_so {e : Expr} {f : M Hd} (h : PE X e (tDE X.K f)) : PO X (some e) (tDO X.K (oSo f)) := po_weak (po_some h) fun σ H Q ⟨S, b, ρ', e1, e2, R, e, q⟩ => by
  subst e1; subst e2
  obtain ⟨h, ρ1, ea, e⟩ := bnd_some e
  refine ⟨S, h, ρ1, rfl, rfl, R, ea, fun v T es er RT kT hT => ?_⟩
  subst er
  cases e3 : res T.ρ h with
  | none => simp only [e3] at e; cases e
  | some d =>
    cases d <;> simp only [e3] at e <;> try cases e
    cases Rt.int (hT.rt RT e3)
    exact ⟨_, rfl, q T es rfl RT kT⟩
def cutD (ds : List PD) (lo hi : Option Int) : List PD := (ds.drop (HT.sIx ds.length 0 lo)).take (HT.sIx ds.length ds.length hi - HT.sIx ds.length 0 lo)
theorem RpA.cut {K : PySem.W.Frag} {F : Hp} {vs : List V} {ds : List PD} (r : RpA K F vs ds) (lo hi : Option Int) : RpA K F (cutV vs lo hi) (cutD ds lo hi) := by
  unfold cutV cutD
  rw [r.len]
  exact (r.drop _).take _
def gSl (d : PD) (lo hi : Option Int) : Option Hd := match d with
  | .list ds => some (.frL (cutD ds lo hi))
  | .tuple ds => some (.dat (.tuple (cutD ds lo hi)))
  | .str z => if fitsLine z.length = true then some (.dat (.str (cutS z lo hi))) else none
  | _ => none
def eSl (fa : M Hd) (fl fh : M (Option Int)) : M Hd := bnd fa fun h => bnd fl fun l => bnd fh fun u ρ => match res ρ h with
  | some d => match gSl d l u with
    | some h' => some (h', ρ)
    | none => none
  | none => none
def rSlD (K : PySem.W.Frag) : V → Option Int → Option Int → Hp → VK → Prop := fun x lo hi H Q => ∃ F d h, Same F H ∧ Rt K F H x d ∧ gSl d lo hi = some h ∧ ∀ v F' H', Grow F H F' H' → GvOk K F' H H' v h → Q v H'
theorem sl_D : SlR X (rSlD X.K) := by
  intro pins s σ H x v vl vu lo hi sl Q I rx hs pl pu ⟨F, d, h, sm, r, e, q⟩
  unfold gSl at e
  split at e
  · next ds =>
    cases e
    obtain ⟨a, xs, rfl, ha, pa⟩ := r
    exact sl_list pins s σ H _ v vl vu lo hi sl Q I rx hs pl pu ⟨a, xs, rfl, sqL_of ha, fun p np => GOp.newL sm q (pa.cut lo hi) np⟩
  · next ds =>
    cases e
    obtain ⟨a, xs, rfl, ha, pa⟩ := r.tup
    refine sl_tupA pins s σ H _ v vl vu lo hi sl Q I rx hs pl pu ⟨a, xs, rfl, .inl (.inl (sm _ _ ha)), fun ⟨z1, z2⟩ => ?_, fun _ p np => GOp.newT sm q (pa.cut lo hi) np⟩
    have : cutD ds lo hi = ds := by
      unfold cutD
      rw [← pa.len, z1, z2, List.drop_zero, Nat.sub_zero]
      exact List.take_of_length_le (by rw [pa.len]; exact Nat.le_refl _)
    rw [this] at q
    exact GOp.dat sm q (.tup ha pa)
  · next z =>
    split at e <;> try cases e
    next hz =>
    cases Rt.str r
    exact sl_str pins s σ H _ v vl vu lo hi sl Q I rx hs pl pu ⟨z, rfl, fitsLine_le hz, qs sm q⟩
  · cases e
theorem d_sl {e : Expr} {lo hi : Option Expr} {p2 pos : Pos} {fa : M Hd} {fl fh : M (Option Int)} (he : PE X e (tDE X.K fa)) (hl : PO X lo (tDO X.K fl)) (hu : PO X hi (tDO X.K fh)) : PE X (.Subscript e (.Slice lo hi none p2) pos) (tDE X.K (eSl fa fl fh)) := by
  refine pe_weak (pe_slice sl_D he hl hu) fun σ H Q ⟨S, r, ρ', e1, e2, R, e, q⟩ => ?_
  subst e1; subst e2
  obtain ⟨h, ρ1, ea, e⟩ := bnd_some e
  obtain ⟨l, ρ2, eb, e⟩ := bnd_some e
  obtain ⟨u, ρ3, ec, e⟩ := bnd_some e
  refine ⟨S, h, ρ1, rfl, rfl, R, ea, fun v T es er RT kT hT => ⟨T, l, ρ2, es, rfl, RT, by rw [er]; exact eb, fun U us ur RU kU => ⟨U, u, ρ3, us, rfl, RU, by rw [ur]; exact ec, fun W ws wr RW kW => ?_⟩⟩⟩
  subst wr
  have hW : HdOk X.K S W v h := (hT.step kU (us.trans es.symm)).step kW (ws.trans us.symm)
  cases e3 : res W.ρ h with
  | none => simp only [e3] at e; cases e
  | some d =>
    simp only [e3] at e
    cases e4 : gSl d l u with
    | none => simp only [e4] at e; cases e
    | some h' =>
      simp only [e4] at e; cases e
      have kk := (kT.trans kU).trans kW
      exact ⟨W.F, d, r, RW.fh, hW.rt RW e3, e4, fun p F' H' gr gv => q p ⟨F', W.ρ, W.σ, H'⟩ ws rfl (RW.grow gr) (kk.trans (Kp.grow gr)) (gv.hd RW kk)⟩
/-- xs[::-1] of a list -/
def gRev : List PD → Option Hd
  | [.list ds] => some (.frL ds.reverse)
  | _ => none
theorem d_rev {e : Expr} {fa : M Hd} {k : Nat} {p1 p2 p3 pos : Pos} (he : PE X e (tDE X.K fa)) : PE X (.Subscript e (.Slice none none (some (.UnaryOp .USub (.Constant (.int 1) k p1) p2)) p3) pos) (tDE X.K (e1 gRev fa)) := by
  refine pe_weak (pe_revL he) fun σ H Q h => ?_
  obtain ⟨S, r, ρ', z1, z2, z3, z4, z5⟩ := one_red (op_red h)
  refine ⟨S, r, ρ', z1, z2, z3, z4, fun v T a1 a2 a3 a4 a5 => ?_⟩
  obtain ⟨F, d, h, sm, r1, e, q⟩ := GOp.p1 (z5 v T a1 a2 a3 a4 a5)
  unfold gRev at e
  split at e
  · next ds ee =>
    cases e; cases ee
    obtain ⟨a, xs, rfl, ha, pa⟩ := r1
    exact ⟨a, xs, rfl, sqL_of ha, fun p np => GOp.newL sm q pa.rev np⟩
  · cases e
end DL
set_option Elab.async false
set_option linter.all false
set_option maxRecDepth 100000
/-! DL: builtin calls over data. -/
namespace DL
open PySem PySem.Spec PyProof.Rows L2
variable {X : Cx}
/-- the ints, the truth values, the pairs of ints that data are -/
def intsD : List PD → Option (List Int)
  | [] => some []
  | .int i :: r => (intsD r).map (i :: ·)
  | _ => none
theorem intsD_of : ∀ {ds : List PD} {ns : List Int}, intsD ds = some ns → ds = ns.map PyData.int
  | [], _, e => by cases e; rfl
  | d :: ds, ns, e => by
    unfold intsD at e
    split at e
    · next h => cases h
    · next i r h =>
      cases h
      simp only [Option.map_eq_some_iff] at e
      obtain ⟨m, e1, rfl⟩ := e
      rw [intsD_of e1]; rfl
    · cases e
theorem intsD_map : ∀ ns : List Int, intsD (ns.map PyData.int) = some ns
  | [] => rfl
  | n :: ns => by rw [List.map_cons, intsD, intsD_map ns]; rfl
def boolsD : List PD → Option (List Bool)
  | [] => some []
  | .bool i :: r => (boolsD r).map (i :: ·)
  | _ => none
theorem boolsD_of : ∀ {ds : List PD} {ns : List Bool}, boolsD ds = some ns → ds = ns.map PyData.bool
  | [], _, e => by cases e; rfl
  | d :: ds, ns, e => by
    unfold boolsD at e
    split at e
    · next h => cases h
    · next i r h =>
      cases h
      simp only [Option.map_eq_some_iff] at e
      obtain ⟨m, e1, rfl⟩ := e
      rw [boolsD_of e1]; rfl
    · cases e
theorem boolsD_map : ∀ ns : List Bool, boolsD (ns.map PyData.bool) = some ns
  | [] => rfl
  | n :: ns => by rw [List.map_cons, boolsD, boolsD_map ns]; rfl
def pairD (p : Int × Int) : PD := .tuple [.int p.1, .int p.2]
def pairsD : List PD → Option (List (Int × Int))
  | [] => some []
  | .tuple [.int i, .int j] :: r => (pairsD r).map ((i, j) :: ·)
  | _ => none
theorem pairsD_of : ∀ {ds : List PD} {ns : List (Int × Int)}, pairsD ds = some ns → ds = ns.map pairD
  | [], _, e => by cases e; rfl
  | d :: ds, ns, e => by
    unfold pairsD at e
    split at e
    · next h => cases h
    · next i j r h =>
      cases h
      simp only [Option.map_eq_some_iff] at e
      obtain ⟨m, e1, rfl⟩ := e
      rw [pairsD_of e1]; rfl
    · cases e
theorem pairsD_map : ∀ ns : List (Int × Int), pairsD (ns.map pairD) = some ns
  | [] => rfl
  | n :: ns => by rw [List.map_cons, pairD, pairsD, pairsD_map ns]; rfl

/-! ### len, abs, int -/
def gLen : List PD → Option Hd
  | [.list ds] => some (.dat (.int ds.length))
  | [.tuple ds] => some (.dat (.int ds.length))
  | [.str z] => if fitsLine z.length = true then some (.dat (.int z.length)) else none
  | _ => none
theorem gop_one {K : PySem.W.Frag} {g : List PD → Option Hd} {xs : List V} {H : Hp} {Q : VK} (h : GOp K g xs H Q) (g1 : ∀ ds, g ds ≠ none → ds.length = 1) :
    ∃ x F d h, xs = [x] ∧ Same F H ∧ Rt K F H x d ∧ g [d] = some h ∧ ∀ v F' H', Grow F H F' H' → GvOk K F' H H' v h → Q v H' := by
  obtain ⟨F, ds, h, s, r, e, q⟩ := h
  have hl := g1 ds (by rw [e]; simp)
  cases r with
  | nil => cases hl
  | cons r1 r2 =>
    cases r2 with
    | nil => exact ⟨_, F, _, h, rfl, s, r1, e, q⟩
    | cons r2 r3 => simp at hl
theorem call_len_D : CallR X (.builtin "len") (GOp X.K gLen) := by
  intro pins s σ H xs us Q I r h
  obtain ⟨x, F, d, h, rfl, sm, r1, e, q⟩ := gop_one h fun ds n => by unfold gLen at n; split at n <;> first | rfl | exact absurd rfl n
  unfold gLen at e
  split at e
  · next ds ee =>
    cases e; cases ee
    obtain ⟨a, xs, rfl, ha, pa⟩ := r1
    exact call_len_seq pins s σ H _ us Q I r ⟨a, xs, rfl, .inl (sqL_of ha), by rw [pa.len]; exact qi sm q⟩
  · next ds ee =>
    cases e; cases ee
    obtain ⟨a, xs, rfl, ha, pa⟩ := r1.tup
    exact call_len_seq pins s σ H _ us Q I r ⟨a, xs, rfl, .inr (.inl (.inl (sm _ _ ha))), by rw [pa.len]; exact qi sm q⟩
  · next z ee =>
    cases ee
    split at e <;> cases e
    next hz =>
    cases Rt.str r1
    exact call_len_str pins s σ H _ us Q I r ⟨z, rfl, fitsLine_le hz, qi sm q⟩
  · cases e
def gAbs : List PD → Option Hd
  | [.int i] => some (.dat (.int (if i < 0 then -i else i)))
  | _ => none
theorem call_abs_D : CallR X (.builtin "abs") (GOp X.K gAbs) := by
  intro pins s σ H xs us Q I r h
  obtain ⟨x, F, d, h, rfl, sm, r1, e, q⟩ := gop_one h fun ds n => by unfold gAbs at n; split at n <;> first | rfl | exact absurd rfl n
  unfold gAbs at e
  split at e
  · next i ee =>
    cases e; cases ee
    cases Rt.int r1
    exact call_abs pins s σ H _ us Q I r ⟨i, rfl, qi sm q⟩
  · cases e
def gInt : List PD → Option Hd
  | [.int i] => some (.dat (.int i))
  | [.bool k] => some (.dat (.int (if k then 1 else 0)))
  | _ => none
theorem call_int_D : CallR X (.type "int") (GOp X.K gInt) := by
  intro pins s σ H xs us Q I r h
  obtain ⟨x, F, d, h, rfl, sm, r1, e, q⟩ := gop_one h fun ds n => by unfold gInt at n; split at n <;> first | rfl | exact absurd rfl n
  unfold gInt at e
  split at e
  · next i ee =>
    cases e; cases ee
    cases Rt.int r1
    exact call_int1 pins s σ H _ us Q I r (.inl ⟨i, rfl, qi sm q⟩)
  · next i ee =>
    cases e; cases ee
    cases Rt.bl r1
    exact call_int1 pins s σ H _ us Q I r (.inr ⟨i, rfl, qi sm q⟩)
  · cases e

/-! ### max, min, sum, any, all -/
def maxI : List Int → Int
  | [] => 0
  | n :: ns => ns.foldl max n
def minI : List Int → Int
  | [] => 0
  | n :: ns => ns.foldl min n
theorem foldl_max : ∀ (ns : List Int) (n : Int), (ns.foldl max n = n ∨ ns.foldl max n ∈ ns) ∧ n ≤ ns.foldl max n ∧ ∀ y, y ∈ ns → y ≤ ns.foldl max n
  | [], n => ⟨.inl rfl, Int.le_refl _, fun _ h => nomatch h⟩
  | m :: ns, n => by
    obtain ⟨h1, h2, h3⟩ := foldl_max ns (max n m)
    simp only [List.foldl_cons]
    refine ⟨?_, by omega, fun y hy => ?_⟩
    · rcases h1 with h1 | h1
      · rw [h1]
        by_cases h : n ≤ m
        · exact .inr (by rw [Int.max_eq_right h]; exact List.mem_cons_self ..)
        · exact .inl (by omega)
      · exact .inr (List.mem_cons_of_mem _ h1)
    · rcases List.mem_cons.mp hy with rfl | hy
      · omega
      · exact h3 y hy
theorem foldl_min : ∀ (ns : List Int) (n : Int), (ns.foldl min n = n ∨ ns.foldl min n ∈ ns) ∧ ns.foldl min n ≤ n ∧ ∀ y, y ∈ ns → ns.foldl min n ≤ y
  | [], n => ⟨.inl rfl, Int.le_refl _, fun _ h => nomatch h⟩
  | m :: ns, n => by
    obtain ⟨h1, h2, h3⟩ := foldl_min ns (min n m)
    simp only [List.foldl_cons]
    refine ⟨?_, by omega, fun y hy => ?_⟩
    · rcases h1 with h1 | h1
      · rw [h1]
        by_cases h : n ≤ m
        · exact .inl (by omega)
        · exact .inr (by rw [Int.min_eq_right (by omega)]; exact List.mem_cons_self ..)
      · exact .inr (List.mem_cons_of_mem _ h1)
    · rcases List.mem_cons.mp hy with rfl | hy
      · omega
      · exact h3 y hy
theorem maxI_mem {ns : List Int} (h : ns ≠ []) : maxI ns ∈ ns := by
  cases ns with
  | nil => exact absurd rfl h
  | cons n ns =>
    rcases (foldl_max ns n).1 with e | e
    · show ns.foldl max n ∈ _
      rw [e]; exact List.mem_cons_self ..
    · exact List.mem_cons_of_mem _ e
theorem maxI_ge {ns : List Int} {y : Int} (h : y ∈ ns) : y ≤ maxI ns := by
  cases ns with
  | nil => cases h
  | cons n ns =>
    obtain ⟨_, h2, h3⟩ := foldl_max ns n
    rcases List.mem_cons.mp h with rfl | h
    · exact h2
    · exact h3 y h
theorem minI_mem {ns : List Int} (h : ns ≠ []) : minI ns ∈ ns := by
  cases ns with
  | nil => exact absurd rfl h
  | cons n ns =>
    rcases (foldl_min ns n).1 with e | e
    · show ns.foldl min n ∈ _
      rw [e]; exact List.mem_cons_self ..
    · exact List.mem_cons_of_mem _ e
theorem minI_le {ns : List Int} {y : Int} (h : y ∈ ns) : minI ns ≤ y := by
  cases ns with
  | nil => cases h
  | cons n ns =>
    obtain ⟨_, h2, h3⟩ := foldl_min ns n
    rcases List.mem_cons.mp h with rfl | h
    · exact h2
    · exact h3 y h
theorem maxI_eq {ns : List Int} {m : Int} (h : m ∈ ns) (h' : ∀ y, y ∈ ns → y ≤ m) : maxI ns = m := by
  have h1 := h' _ (maxI_mem (fun e => by subst e; cases h))
  have h2 := maxI_ge h
  omega
theorem minI_eq {ns : List Int} {m : Int} (h : m ∈ ns) (h' : ∀ y, y ∈ ns → m ≤ y) : minI ns = m := by
  have h1 := h' _ (minI_mem (fun e => by subst e; cases h))
  have h2 := minI_le h
  omega
def gMax : List PD → Option Hd
  | [.int i, .int j] => some (.dat (.int (if j > i then j else i)))
  | [.list ds] => match intsD ds with
    | some (n :: ns) => some (.dat (.int (maxI (n :: ns))))
    | _ => none
  | _ => none
def gMin : List PD → Option Hd
  | [.int i, .int j] => some (.dat (.int (if j < i then j else i)))
  | [.list ds] => match intsD ds with
    | some (n :: ns) => some (.dat (.int (minI (n :: ns))))
    | _ => none
  | _ => none
theorem RtA.two {K : PySem.W.Frag} {F H : Hp} {xs : List V} {d d' : PD} (h : RtA K F H xs [d, d']) : ∃ x y, xs = [x, y] ∧ Rt K F H x d ∧ Rt K F H y d' := by
  cases h with
  | cons a b =>
    cases b with
    | cons b c => cases c; exact ⟨_, _, rfl, a, b⟩
theorem RtA.one {K : PySem.W.Frag} {F H : Hp} {xs : List V} {d : PD} (h : RtA K F H xs [d]) : ∃ x, xs = [x] ∧ Rt K F H x d := by
  cases h with
  | cons a b => cases b; exact ⟨_, rfl, a⟩
theorem call_max_D (hc : X.calm = true) : CallR X (.builtin "max") (GOp X.K gMax) := by
  intro pins s σ H xs us Q I r ⟨F, ds, h, sm, ra, e, q⟩
  unfold gMax at e
  split at e
  · cases e
    obtain ⟨x, y, rfl, r1, r2⟩ := ra.two
    cases Rt.int r1; cases Rt.int r2
    exact call_max2 hc pins s σ H _ us Q I r ⟨_, _, rfl, qi sm q⟩
  · next ds =>
    obtain ⟨x, rfl, r1⟩ := ra.one
    split at e <;> cases e
    next n ns hn =>
    obtain ⟨a, xs, rfl, ha, pa⟩ := r1
    rw [intsD_of hn] at pa
    rw [pa.ints] at ha
    exact cr_max hc pins s σ H _ us Q I r ⟨a, n :: ns, rfl, sqL_of ha, by simp, fun m h1 h2 => by rw [← maxI_eq h1 h2]; exact qi sm q⟩
  · cases e
theorem call_min_D (hc : X.calm = true) : CallR X (.builtin "min") (GOp X.K gMin) := by
  intro pins s σ H xs us Q I r ⟨F, ds, h, sm, ra, e, q⟩
  unfold gMin at e
  split at e
  · cases e
    obtain ⟨x, y, rfl, r1, r2⟩ := ra.two
    cases Rt.int r1; cases Rt.int r2
    exact call_min2 hc pins s σ H _ us Q I r ⟨_, _, rfl, qi sm q⟩
  · next ds =>
    obtain ⟨x, rfl, r1⟩ := ra.one
    split at e <;> cases e
    next n ns hn =>
    obtain ⟨a, xs, rfl, ha, pa⟩ := r1
    rw [intsD_of hn] at pa
    rw [pa.ints] at ha
    exact cr_min hc pins s σ H _ us Q I r ⟨a, n :: ns, rfl, sqL_of ha, by simp, fun m h1 h2 => by rw [← minI_eq h1 h2]; exact qi sm q⟩
  · cases e
def gSum : List PD → Option Hd
  | [.list ds] => (intsD ds).map fun ns => .dat (.int ns.sum)
  | _ => none
theorem call_sum_D (hc : X.calm = true) : CallR X (.builtin "sum") (GOp X.K gSum) := by
  intro pins s σ H xs us Q I r ⟨F, ds, h, sm, ra, e, q⟩
  unfold gSum at e
  split at e
  · next ds =>
    obtain ⟨x, rfl, r1⟩ := ra.one
    simp only [Option.map_eq_some_iff] at e
    obtain ⟨ns, hn, rfl⟩ := e
    obtain ⟨a, xs, rfl, ha, pa⟩ := r1
    rw [intsD_of hn] at pa
    rw [pa.ints] at ha
    exact cr_sum hc pins s σ H _ us Q I r ⟨a, ns, rfl, sqL_of ha, qi sm q⟩
  · cases e
def gAny : List PD → Option Hd
  | [.list ds] => (boolsD ds).map fun ns => .dat (.bool (ns.any id))
  | _ => none
def gAll : List PD → Option Hd
  | [.list ds] => (boolsD ds).map fun ns => .dat (.bool (ns.all id))
  | _ => none
theorem call_any_D (hc : X.calm = true) : CallR X (.builtin "any") (GOp X.K gAny) := by
  intro pins s σ H xs us Q I r ⟨F, ds, h, sm, ra, e, q⟩
  unfold gAny at e
  split at e
  · next ds =>
    obtain ⟨x, rfl, r1⟩ := ra.one
    simp only [Option.map_eq_some_iff] at e
    obtain ⟨ns, hn, rfl⟩ := e
    obtain ⟨a, xs, rfl, ha, pa⟩ := r1
    rw [boolsD_of hn] at pa
    rw [pa.bools] at ha
    exact cr_any hc pins s σ H _ us Q I r ⟨a, ns, rfl, sqL_of ha, qb sm q⟩
  · cases e
theorem call_all_D (hc : X.calm = true) : CallR X (.builtin "all") (GOp X.K gAll) := by
  intro pins s σ H xs us Q I r ⟨F, ds, h, sm, ra, e, q⟩
  unfold gAll at e
  split at e
  · next ds =>
    obtain ⟨x, rfl, r1⟩ := ra.one
    simp only [Option.map_eq_some_iff] at e
    obtain ⟨ns, hn, rfl⟩ := e
    obtain ⟨a, xs, rfl, ha, pa⟩ := r1
    rw [boolsD_of hn] at pa
    rw [pa.bools] at ha
    exact cr_all hc pins s σ H _ us Q I r ⟨a, ns, rfl, sqL_of ha, qb sm q⟩
  · cases e

/-! ### tuple, list, sorted -/
def gTuple : List PD → Option Hd
  | [.list ds] => some (.dat (.tuple ds))
  | [.tuple ds] => some (.dat (.tuple ds))
  | _ => none
theorem call_tuple_D : CallR X (.type "tuple") (GOp X.K gTuple) := by
  intro pins s σ H xs us Q I r ⟨F, ds, h, sm, ra, e, q⟩
  unfold gTuple at e
  split at e
  · cases e
    obtain ⟨x, rfl, r1⟩ := ra.one
    obtain ⟨a, xs, rfl, ha, pa⟩ := r1
    exact call_tuple_of pins s σ H _ us Q I r ⟨a, xs, rfl, .inl ⟨sqL_of ha, fun l nl => GOp.newT sm q pa nl⟩⟩
  · cases e
    obtain ⟨x, rfl, r1⟩ := ra.one
    obtain ⟨a, xs, rfl, ha, pa⟩ := r1.tup
    exact call_tuple_of pins s σ H _ us Q I r ⟨a, xs, rfl, .inr ⟨.inl (.inl (sm _ _ ha)), GOp.dat sm q (.tup ha pa)⟩⟩
  · cases e
def gList : List PD → Option Hd
  | [.list ds] => some (.frL ds)
  | [.tuple ds] => some (.frL ds)
  | _ => none
theorem call_list_D : CallR X (.type "list") (GOp X.K gList) := by
  intro pins s σ H xs us Q I r ⟨F, ds, h, sm, ra, e, q⟩
  unfold gList at e
  split at e
  · cases e
    obtain ⟨x, rfl, r1⟩ := ra.one
    obtain ⟨a, xs, rfl, ha, pa⟩ := r1
    exact call_list_of pins s σ H _ us Q I r ⟨a, xs, rfl, .inl (sqL_of ha), fun l nl => GOp.newL sm q pa nl⟩
  · cases e
    obtain ⟨x, rfl, r1⟩ := ra.one
    obtain ⟨a, xs, rfl, ha, pa⟩ := r1.tup
    exact call_list_of pins s σ H _ us Q I r ⟨a, xs, rfl, .inr (.inl (.inl (sm _ _ ha))), fun l nl => GOp.newL sm q pa nl⟩
  · cases e
def srtI (ns : List Int) : List Int := ns.mergeSort fun a b => decide (a ≤ b)
theorem srtI_perm (ns : List Int) : (srtI ns).Perm ns := List.mergeSort_perm ..
theorem srtI_le (ns : List Int) : (srtI ns).Pairwise (· ≤ ·) := by
  have := List.pairwise_mergeSort (le := fun a b : Int => decide (a ≤ b)) (fun a b c h1 h2 => by simp only [decide_eq_true_eq] at *; omega) (fun a b => by simp only [Bool.or_eq_true, decide_eq_true_eq]; omega) ns
  exact this.imp fun h => of_decide_eq_true h
theorem srtI_eq {ns ms : List Int} (h : ms.Perm ns) (h' : ms.Pairwise (· ≤ ·)) : ms = srtI ns :=
  List.Perm.eq_of_pairwise (le := fun a b => a ≤ b) (fun _ _ _ _ a b => Int.le_antisymm a b) h' (srtI_le ns) (h.trans (srtI_perm ns).symm)
def leP (p q : Int × Int) : Bool := decide (p.1 < q.1 ∨ (p.1 = q.1 ∧ p.2 ≤ q.2))
def srtP (ns : List (Int × Int)) : List (Int × Int) := ns.mergeSort leP
theorem leP_iff {p q : Int × Int} : leP p q = true ↔ p.1 < q.1 ∨ (p.1 = q.1 ∧ p.2 ≤ q.2) := by unfold leP; exact decide_eq_true_iff
theorem srtP_perm (ns : List (Int × Int)) : (srtP ns).Perm ns := List.mergeSort_perm ..
theorem srtP_le (ns : List (Int × Int)) : (srtP ns).Pairwise (fun a b => leP a b = true) :=
  List.pairwise_mergeSort (le := leP) (fun a b c h1 h2 => by rw [leP_iff] at *; omega) (fun a b => by rw [Bool.or_eq_true, leP_iff, leP_iff]; omega) ns
theorem srtP_eq {ns ms : List (Int × Int)} (h : ms.Perm ns) (h' : ms.Pairwise (fun a b => leP a b = true)) : ms = srtP ns :=
  List.Perm.eq_of_pairwise (le := fun a b => leP a b = true) (fun a b _ _ h1 h2 => by
    rw [leP_iff] at h1 h2
    exact Prod.ext (by omega) (by omega)) h' (srtP_le ns) (h.trans (srtP_perm ns).symm)
theorem RpA.mem {K : PySem.W.Frag} {F : Hp} : ∀ {vs : List V} {ns : List (Int × Int)}, RpA K F vs (ns.map pairD) → ∀ v ∈ vs, ∃ p : Int × Int, p ∈ ns ∧ ∃ t, v = .ref t ∧ F t = some (.tup [.int p.1, .int p.2])
  | [], [], _, _, h => nomatch h
  | v :: vs, n :: ns, .cons r rs, w, h => by
    rcases List.mem_cons.mp h with rfl | h
    · have r' : Rp K F _ (.tuple [.int n.1, .int n.2]) := r
      cases r' with
      | tup a b =>
        cases b with
        | cons b c =>
          cases b
          cases c with
          | cons c d =>
            cases c
            cases d
            exact ⟨n, List.mem_cons_self .., _, rfl, a⟩
    · obtain ⟨p, hp, z⟩ := RpA.mem rs w h
      exact ⟨p, List.mem_cons_of_mem _ hp, z⟩
def pairV (F : Hp) : V → Int × Int
  | .ref t => match F t with
    | some (.tup [.int i, .int j]) => (i, j)
    | _ => (0, 0)
  | _ => (0, 0)
theorem pairV_at {F : Hp} {t : Addr} {p : Int × Int} (h : F t = some (.tup [.int p.1, .int p.2])) : pairV F (.ref t) = p := by
  simp only [pairV, h]
theorem RpA.pairs {K : PySem.W.Frag} {F : Hp} : ∀ {vs : List V} {ns : List (Int × Int)}, RpA K F vs (ns.map pairD) → vs.map (pairV F) = ns
  | [], [], _ => rfl
  | v :: vs, n :: ns, .cons r rs => by
    rw [List.map_cons, RpA.pairs rs]
    obtain ⟨p, hp, t, rfl, ht⟩ := RpA.mem (vs := [v]) (ns := [n]) (.cons r .nil) v (List.mem_cons_self ..)
    rw [List.mem_singleton.mp hp] at ht
    rw [pairV_at ht]
theorem RpA.of_pairs {K : PySem.W.Frag} {F : Hp} : ∀ {vs : List V}, (∀ v ∈ vs, ∃ p : Int × Int, ∃ t, v = .ref t ∧ F t = some (.tup [.int p.1, .int p.2])) → RpA K F vs ((vs.map (pairV F)).map pairD)
  | [], _ => .nil
  | v :: vs, h => by
    obtain ⟨p, t, rfl, ht⟩ := h v (List.mem_cons_self ..)
    refine .cons ?_ (RpA.of_pairs fun w hw => h w (List.mem_cons_of_mem _ hw))
    have e : pairV F (.ref t) = p := pairV_at ht
    rw [e]
    exact .tup ht (.cons (.int _) (.cons (.int _) .nil))
def gSorted : List PD → Option Hd
  | [.list ds] => match intsD ds with
    | some ns => some (.frL ((srtI ns).map .int))
    | none => (pairsD ds).map fun ns => .frL ((srtP ns).map pairD)
  | _ => none
theorem call_sorted_D : CallR X (.builtin "sorted") (GOp X.K gSorted) := by
  intro pins s σ H xs us Q I r ⟨F, ds, h, sm, ra, e, q⟩
  unfold gSorted at e
  split at e
  · next ds =>
    obtain ⟨x, rfl, r1⟩ := ra.one
    obtain ⟨a, xs, rfl, ha, pa⟩ := r1
    split at e
    · next ns hn =>
      cases e
      rw [intsD_of hn] at pa
      rw [pa.ints] at ha
      refine cr_sortedI pins s σ H _ us Q I r ⟨a, ns, rfl, sqL_of ha, fun ms p h1 h2 np => ?_⟩
      rw [srtI_eq h1 h2]
      exact GOp.newL sm q (RpA.ofInts _) np
    · simp only [Option.map_eq_some_iff] at e
      obtain ⟨ns, hn, rfl⟩ := e
      rw [pairsD_of hn] at pa
      have hp := pa.pairs
      have hm : ∀ x ∈ xs, ∃ p : Int × Int, ∃ t, x = V.ref t ∧ F t = some (.tup [.int p.1, .int p.2]) := fun x hx => by
        obtain ⟨p, _, z⟩ := pa.mem x hx
        exact ⟨p, z⟩
      have hk : ∀ x ∈ xs, ∃ t, x = V.ref t ∧ F t = some (.tup [.int (pairV F x).1, .int (pairV F x).2]) := fun x hx => by
        obtain ⟨p, t, rfl, ht⟩ := hm x hx
        have : pairV F (.ref t) = p := pairV_at ht
        exact ⟨t, rfl, by rw [this]; exact ht⟩
      refine cr_sortedPO pins s σ H _ us Q I r ⟨a, xs, pairV F, rfl, sqL_of ha, fun x hx => ?_, fun ys p h1 h2 np => ?_⟩
      · obtain ⟨t, e1, e2⟩ := hk x hx
        exact ⟨t, e1, sm _ _ e2⟩
      · have hy : ∀ y ∈ ys, y ∈ xs := fun y z => h2.perm.mem_iff.mp z
        have e1 : ys.map (pairV F) = srtP ns := by
          refine srtP_eq ?_ ?_
          · rw [← hp]
            exact h2.perm.map _
          · rw [List.pairwise_map]
            exact List.Pairwise.imp (fun {a b} z => by
              have z' := SrtO.lexB_no.mp z
              rw [leP_iff]; omega) h1
        have := RpA.of_pairs (K := X.K) (F := F) (vs := ys) fun v hv => hm v (hy v hv)
        rw [e1] at this
        exact GOp.newL sm q this np
  · cases e
end DL
set_option Elab.async false
set_option linter.all false
set_option maxRecDepth 100000
/-! DL: repr, isinstance, list(range(n)). -/
namespace DL
open PySem PySem.Spec PyProof.Rows L2
variable {X : Cx}
mutual
theorem Rp.dp {K : PySem.W.Frag} {H : Hp} : ∀ {v : V} {d : PD}, Rp K H v d → d.hasDict = false → Dp K H v d
  | _, _, .non, _ => .non
  | _, _, .bl b, _ => .bl b
  | _, _, .int i, _ => .int i
  | _, _, .str x, _ => .str x
  | _, _, .lst h r, z => .lst (.inl (.inl h)) (RpA.dp r (by simpa only [PyData.hasDict] using z))
  | _, _, .tup h r, z => .tup (.inl (.inl h)) (RpA.dp r (by simpa only [PyData.hasDict] using z))
  | _, _, .dct h r, z => by simp [PyData.hasDict] at z
theorem RpA.dp {K : PySem.W.Frag} {H : Hp} : ∀ {vs : List V} {ds : List PD}, RpA K H vs ds → PyData.hasDictAll ds = false → DpAll K H vs ds
  | _, _, .nil, _ => .nil
  | _, _, .cons h r, z => by
    simp only [PyData.hasDictAll, Bool.or_eq_false_iff] at z
    exact .cons (Rp.dp h z.1) (RpA.dp r z.2)
end
def reprOk (d : PD) : Bool := d.showable && !d.hasDict && fitsLine d.shown.length && decide (d.depth ≤ 60)
def gRepr : List PD → Option Hd
  | [d] => if reprOk d = true then some (.dat (.str d.shown)) else none
  | _ => none
theorem call_repr_D (hg : X.A.guards = some []) (hu : X.A.units + 64 < cLine) : CallR X (.builtin "repr") (GOp X.K gRepr) := by
  intro pins s σ H xs us Q I r h
  obtain ⟨x, F, d, h, rfl, sm, r1, e, q⟩ := gop_one h fun ds n => by unfold gRepr at n; split at n <;> first | rfl | exact absurd rfl n
  unfold gRepr at e
  simp only at e
  split at e <;> cases e
  next hz =>
  unfold reprOk at hz
  simp only [Bool.and_eq_true, Bool.not_eq_true', decide_eq_true_eq] at hz
  obtain ⟨⟨⟨h1, h2⟩, h3⟩, h4⟩ := hz
  have rp := r1.rp sm
  obtain ⟨u, rfl, ru⟩ := vals1 r
  have hD := rp.dp h2
  obtain ⟨as, rd⟩ := Dp.reads I d x u hD ru
  have fin : ∀ (t : Tok) h' tk, (∀ b o, s.heap.get? b = some o → h'.get? b = some o) → EP X pins σ Q (.str d.shown t) { s with heap := h', toks := tk } := fun t h' tk hk =>
    ⟨.str d.shown, H, I.kept hk, ⟨_, rfl⟩, qs sm q⟩
  cases d with
  | none =>
    cases Rt.non r1; cases ru
    exact PySem.P.repr_of_none (fin _ s.heap _ fun _ _ e => e)
  | bool b =>
    cases Rt.bl r1; cases ru
    exact PySem.P.repr_of_bool (fin _ s.heap _ fun _ _ e => e)
  | int b =>
    cases Rt.int r1
    obtain ⟨t, rfl⟩ := ru
    exact PySem.P.repr_of_int (by simpa [PyData.showable] using h1) (fin _ s.heap _ fun _ _ e => e)
  | str b =>
    cases Rt.str r1
    obtain ⟨t, rfl⟩ := ru
    exact PySem.P.repr_of_str (fin _ s.heap _ fun _ _ e => e) (fitsLine_le h3)
  | list b =>
    obtain ⟨a, vs, rfl, _⟩ := r1
    cases ru
    exact repr_of_reads' rd h1 (PyData.noDict_hsm h2) hg (by omega) (fun _ _ e => e) (fun h' u tk hk => fin u h' tk hk) (fitsLine_le h3)
  | tuple b =>
    obtain ⟨a, vs, rfl, _⟩ := r1.tup
    cases ru
    exact repr_of_reads' rd h1 (PyData.noDict_hsm h2) hg (by omega) (fun _ _ e => e) (fun h' u tk hk => fin u h' tk hk) (fitsLine_le h3)
  | dict b => simp [PyData.hasDict] at h2

/-! ### isinstance(x, T) -/
def tyD : PD → String
  | .none => "NoneType"
  | .bool _ => "bool"
  | .int _ => "int"
  | .str _ => "str"
  | .list _ => "list"
  | .tuple _ => "tuple"
  | .dict _ => "dict"
theorem Rt.ty {K : PySem.W.Frag} {F H : Hp} {v : V} {d : PD} (sm : Same F H) (r : Rt K F H v d) : TyX K H v (.type (tyD d)) := by
  cases d with
  | none => cases Rt.non r; exact .base .non
  | bool b => cases Rt.bl r; exact .base (.bl b)
  | int b => cases Rt.int r; exact .base (.int b)
  | str b => cases Rt.str r; exact .base (.str b)
  | list b => obtain ⟨a, vs, rfl, ha, _⟩ := r; exact .base (.lst ha)
  | tuple b => obtain ⟨a, vs, rfl, ha, _⟩ := r.tup; exact .base (.tup (sm _ _ ha))
  | dict b => obtain ⟨a, vs, rfl, ha, _⟩ := r; exact .base (.dK ha)
def isiD (d : PD) (T : String) : Bool := tyD d == T || (T == "int" && tyD d == "bool")
def gIsi (T : String) : List PD → Option Hd
  | [d] => some (.dat (.bool (isiD d T)))
  | _ => none
/-- what is asked of the written part of the heap: the answers of isinstance for the types in use -/
def IsiOk (K : PySem.W.Frag) (T : String) : Prop := ∀ d : PD, PySem.W.kitOne K (.type (tyD d)) (.type T) = some (isiD d T)
theorem d_isi {T : String} {e : Expr} {x : Str} {p p2 pos : Pos} {fa : M Hd} (hk : IsiOk X.K T) (hg : Gl X "isinstance") (hm : X.mg "isinstance" = none) (ha : PE X e (tDE X.K fa)) (ht : PE X (.Name x p2) (tC (.ty T)))
    (hs : starEach [e, .Name x p2] X.env = (false, eval e X.env) :: starEach [.Name x p2] X.env := by rfl) (hs2 : starEach [.Name x p2] X.env = (false, eval (.Name x p2) X.env) :: starEach [] X.env := by rfl)
    (hpl : (backTo pos (starEach [.Name x p2] X.env)).any (·.1) = false := by rfl) :
    PE X (.Call (.Name "isinstance" p) [e, .Name x p2] [] pos) (tDE X.K (e1 (gIsi T) fa)) := by
  refine pe_weak (pe_callB call_isi hg hm rfl (pa_cons ha (pa_cons ht pa_nil hs2) hs) (by decide) (by decide) hs hpl) fun σ H Q h => ?_
  obtain ⟨S, r, ρ', z1, z2, z3, z4, z5⟩ := one_red (op_red h)
  refine ⟨S, r, ρ', z1, z2, z3, z4, fun v T' a1 a2 a3 a4 a5 => ?_⟩
  obtain ⟨F, d, h, sm, r1, e, q⟩ := GOp.p1 (z5 v T' a1 a2 a3 a4 a5)
  cases e
  exact ⟨v, .ty T, .type (tyD d), .type T, isiD d T, rfl, .ty T, r1.ty sm, hk d, qb sm q⟩
end DL
set_option Elab.async false
set_option linter.all false
set_option maxRecDepth 100000
/-! DL: for .. in zip(..), enumerate(..). -/
namespace DL
open PySem PySem.Spec PyProof.Rows L2
variable {X : Cx}
theorem RpA.chars {K : PySem.W.Frag} {F : Hp} : ∀ l : List Nat, RpA K F (l.map fun c => V.str ⟨#[c]⟩) (l.map fun c => PyData.str ⟨#[c]⟩)
  | [] => .nil
  | c :: l => .cons (.str _) (RpA.chars l)
theorem src_of {K : PySem.W.Frag} {F : Hp} {v : V} {d : PD} {ds : List PD} {u : Value} (r : Rp K F v d) (e : seqOf d = some ds) (ru : RelV v u) : ∃ (src : Src) (xs : List V), src.val = u ∧ (∀ H, Same F H → src.at K H xs) ∧ RpA K F xs ds := by
  cases r with
  | lst h q =>
    cases e; cases ru
    exact ⟨.L _, _, rfl, fun H s => .inl (.inl (s _ _ h)), q⟩
  | tup h q =>
    cases e; cases ru
    exact ⟨.T _, _, rfl, fun H s => .inl (.inl (s _ _ h)), q⟩
  | str z =>
    cases e
    obtain ⟨t, rfl⟩ := ru
    exact ⟨.S z t, _, rfl, fun H s => rfl, RpA.chars _⟩
  | non => cases e
  | bl b => cases e
  | int b => cases e
  | dct h q => cases e
def zip2D (a b : List PD) : List PD := List.zipWith (fun x y => PyData.tuple [x, y]) a b
def zip3D (a b c : List PD) : List PD := List.zipWith (fun x p => match p with | .tuple l => PyData.tuple (x :: l) | d => d) a (zip2D b c)
def enumD (a : List PD) : List PD := a.mapIdx fun i x => PyData.tuple [.int (i : Nat), x]
theorem zip2D_get {a b : List PD} {i : Nat} {d : PD} (h : (zip2D a b)[i]? = some d) : ∃ x y, a[i]? = some x ∧ b[i]? = some y ∧ d = .tuple [x, y] := by
  unfold zip2D at h
  rw [List.getElem?_zipWith] at h
  cases ea : a[i]? with
  | none => rw [ea] at h; cases h
  | some x =>
    cases eb : b[i]? with
    | none => rw [ea, eb] at h; cases h
    | some y => rw [ea, eb] at h; cases h; exact ⟨x, y, rfl, rfl, rfl⟩
theorem zip3D_get {a b c : List PD} {i : Nat} {d : PD} (h : (zip3D a b c)[i]? = some d) : ∃ x y z, a[i]? = some x ∧ b[i]? = some y ∧ c[i]? = some z ∧ d = .tuple [x, y, z] := by
  unfold zip3D at h
  rw [List.getElem?_zipWith] at h
  cases ea : a[i]? with
  | none => rw [ea] at h; cases h
  | some x =>
    cases eb : (zip2D b c)[i]? with
    | none => rw [ea, eb] at h; cases h
    | some p =>
      rw [ea, eb] at h; cases h
      obtain ⟨y, z, e1, e2, rfl⟩ := zip2D_get eb
      exact ⟨x, y, z, rfl, e1, e2, rfl⟩
theorem it_Z {K : PySem.W.Frag} {F0 : Hp} {s1 s2 : Src} {xs ys : List V} {a b : List PD} (h1 : ∀ H, Same F0 H → s1.at K H xs) (h2 : ∀ H, Same F0 H → s2.at K H ys) (r1 : RpA K F0 xs a) (r2 : RpA K F0 ys b) : ItOk K (ItZ K s1 s2) F0 (zip2D a b) := fun i F H q1 q2 => by
  have a1 := h1 H (q1.trans q2)
  have a2 := h2 H (q1.trans q2)
  refine ⟨fun d e => ?_, fun e => ⟨xs, ys, a1, a2, ?_⟩⟩
  · obtain ⟨x, y, ex, ey, rfl⟩ := zip2D_get e
    obtain ⟨vx, evx, rx⟩ := r1.get ex
    obtain ⟨vy, evy, ry⟩ := r2.get ey
    refine ⟨⟨xs, ys, vx, vy, a1, a2, evx, evy⟩, fun x H' ⟨T, x', y', e1, e2, e3, e4, e5⟩ => ?_⟩
    subst e1; subst e3
    have z1 := e4 xs a1
    have z2 := e5 ys a2
    rw [evx] at z1; cases z1
    rw [evy] at z2; cases z2
    have g := grow_upd (o := .tup [vx, vy]) q2 e2
    exact ⟨_, g, .tup upd_same (.cons (rx.mono (q1.trans g.ff)) (.cons (ry.mono (q1.trans g.ff)) .nil))⟩
  · rw [e, r1.len, r2.len, zip2D, List.length_zipWith]
theorem it_Z3 {K : PySem.W.Frag} {F0 : Hp} {s1 s2 s3 : Src} {xs ys zs : List V} {a b c : List PD} (h1 : ∀ H, Same F0 H → s1.at K H xs) (h2 : ∀ H, Same F0 H → s2.at K H ys) (h3 : ∀ H, Same F0 H → s3.at K H zs) (r1 : RpA K F0 xs a) (r2 : RpA K F0 ys b) (r3 : RpA K F0 zs c) :
    ItOk K (ItZ3 K s1 s2 s3) F0 (zip3D a b c) := fun i F H q1 q2 => by
  have a1 := h1 H (q1.trans q2)
  have a2 := h2 H (q1.trans q2)
  have a3 := h3 H (q1.trans q2)
  refine ⟨fun d e => ?_, fun e => ⟨xs, ys, zs, a1, a2, a3, ?_⟩⟩
  · obtain ⟨x, y, z, ex, ey, ez, rfl⟩ := zip3D_get e
    obtain ⟨vx, evx, rx⟩ := r1.get ex
    obtain ⟨vy, evy, ry⟩ := r2.get ey
    obtain ⟨vz, evz, rz⟩ := r3.get ez
    refine ⟨⟨xs, ys, zs, vx, vy, vz, a1, a2, a3, evx, evy, evz⟩, fun x H' ⟨T, x', y', z', e1, e2, e3, e4, e5, e6⟩ => ?_⟩
    subst e1; subst e3
    have z1 := e4 xs a1
    have z2 := e5 ys a2
    have z3 := e6 zs a3
    rw [evx] at z1; cases z1
    rw [evy] at z2; cases z2
    rw [evz] at z3; cases z3
    have g := grow_upd (o := .tup [vx, vy, vz]) q2 e2
    exact ⟨_, g, .tup upd_same (.cons (rx.mono (q1.trans g.ff)) (.cons (ry.mono (q1.trans g.ff)) (.cons (rz.mono (q1.trans g.ff)) .nil)))⟩
  · rw [e, r1.len, r2.len, r3.len, zip3D, zip2D, List.length_zipWith, List.length_zipWith]
    omega
theorem it_E {K : PySem.W.Frag} {F0 : Hp} {s1 : Src} {xs : List V} {a : List PD} (h1 : ∀ H, Same F0 H → s1.at K H xs) (r1 : RpA K F0 xs a) : ItOk K (ItE K s1) F0 (enumD a) := fun i F H q1 q2 => by
  have a1 := h1 H (q1.trans q2)
  refine ⟨fun d e => ?_, fun e => ⟨xs, a1, ?_⟩⟩
  · unfold enumD at e
    rw [List.getElem?_mapIdx] at e
    cases ea : a[i]? with
    | none => rw [ea] at e; cases e
    | some x =>
      rw [ea] at e; cases e
      obtain ⟨vx, evx, rx⟩ := r1.get ea
      refine ⟨⟨xs, vx, a1, evx⟩, fun x H' ⟨T, x', e1, e2, e3, e4⟩ => ?_⟩
      subst e1; subst e3
      have z1 := e4 xs a1
      rw [evx] at z1; cases z1
      have g := grow_upd (o := .tup [.int (i : Nat), vx]) q2 e2
      exact ⟨_, g, .tup upd_same (.cons (.int _) (.cons (rx.mono (q1.trans g.ff)) .nil))⟩
  · rw [e, r1.len, enumD, List.length_mapIdx]
def seqsD : List PD → Option (List (List PD))
  | [] => some []
  | d :: r => match seqOf d, seqsD r with
    | some x, some xs => some (x :: xs)
    | _, _ => none
def eZip2 (fa : M (List Hd)) : M (List PD) := bnd (bnd fa frzA) fun ds ρ => match seqsD ds with
  | some [a, b] => some (zip2D a b, ρ)
  | _ => none
def eZip3 (fa : M (List Hd)) : M (List PD) := bnd (bnd fa frzA) fun ds ρ => match seqsD ds with
  | some [a, b, c] => some (zip3D a b c, ρ)
  | _ => none
def eEnum (fa : M (List Hd)) : M (List PD) := bnd (bnd fa frzA) fun ds ρ => match seqsD ds with
  | some [a] => some (enumD a, ρ)
  | _ => none
/-- arguments, frozen -/
theorem frzA_red {K : PySem.W.Frag} {fa : M (List Hd)} {S : Sx} {ds : List PD} {ρ' : En} {Q : List V → Hp → Prop} (R : Rel K S) (e : bnd fa frzA S.ρ = some (ds, ρ'))
    (q : ∀ vs (T : Sx), T.σ = S.σ → T.ρ = ρ' → Rel K T → Kp S T → RpA K T.F vs ds → Q vs T.H) : tDA K fa S.σ S.H Q := by
  obtain ⟨hs, ρ1, ea, eb⟩ := bnd_some e
  refine ⟨S, hs, ρ1, rfl, rfl, R, ea, fun vs ⟨F, ρ, σ, H⟩ es er RT kT hT => ?_⟩
  simp only at es er
  subst er
  obtain ⟨F1, R1, k1, r1, s1⟩ := frzA_ok RT kT hT eb
  exact q vs ⟨F1, ρ', σ, H⟩ es rfl R1 k1 r1
theorem seqsD_two {ds : List PD} {a b : List PD} (h : seqsD ds = some [a, b]) : ∃ x y, ds = [x, y] ∧ seqOf x = some a ∧ seqOf y = some b := by
  match ds, h with
  | [x, y], h =>
    simp only [seqsD] at h
    cases e1 : seqOf x with
    | none => rw [e1] at h; cases h
    | some p =>
      cases e2 : seqOf y with
      | none => rw [e1, e2] at h; cases h
      | some q => rw [e1, e2] at h; cases h; exact ⟨x, y, rfl, e1, e2⟩
  | [], h => cases h
  | [x], h =>
    simp only [seqsD] at h
    cases e1 : seqOf x <;> rw [e1] at h <;> cases h
  | x :: y :: z :: r, h =>
    simp only [seqsD] at h
    split at h
    · next h1 h2 =>
      cases h
      split at h2
      · next h3 h4 =>
        cases h2
        split at h4 <;> cases h4
      · cases h2
    · cases h
theorem seqsD_one {ds : List PD} {a : List PD} (h : seqsD ds = some [a]) : ∃ x, ds = [x] ∧ seqOf x = some a := by
  match ds, h with
  | [x], h =>
    simp only [seqsD] at h
    cases e1 : seqOf x with
    | none => rw [e1] at h; cases h
    | some p => rw [e1] at h; cases h; exact ⟨x, rfl, e1⟩
  | [], h => cases h
  | x :: y :: r, h =>
    simp only [seqsD] at h
    split at h
    · next h1 h2 =>
      cases h
      split at h2 <;> cases h2
    · cases h
theorem seqsD_three {ds : List PD} {a b c : List PD} (h : seqsD ds = some [a, b, c]) : ∃ x y z, ds = [x, y, z] ∧ seqOf x = some a ∧ seqOf y = some b ∧ seqOf z = some c := by
  match ds, h with
  | x :: r, h =>
    simp only [seqsD] at h
    split at h
    · next h1 h2 =>
      cases h
      obtain ⟨y, z, rfl, e2, e3⟩ := seqsD_two h2
      exact ⟨x, y, z, rfl, h1, e2, e3⟩
    · cases h
  | [], h => cases h
section
variable {e e2 e3 : Expr} {fa : M (List Hd)} {p pos tpos : Pos} {elts : List Expr} {kk : Nat}
theorem i_zip2 (hg : Gl X "zip") (hm : X.mg "zip" = none) (ha : PA X [e, e2] (tDA X.K fa))
    (hs : starEach [e, e2] X.env = (false, eval e X.env) :: starEach [e2] X.env := by rfl) (hpl : (backTo pos (starEach [e2] X.env)).any (·.1) = false := by rfl) :
    PI X (.Tuple elts kk tpos) (.Call (.Name "zip" p) [e, e2] [] pos) (tDI X.K (eZip2 fa)) := by
  refine ⟨fun pins s σ H R I ⟨S, items, ρ', z1, z2, RS, ee, q⟩ => ?_⟩
  subst z1; subst z2
  obtain ⟨ds, ρ1, ea, eb⟩ := bnd_some ee
  split at eb <;> cases eb
  next a b hab =>
  obtain ⟨x, y, rfl, ex, ey⟩ := seqsD_two hab
  have red := frzA_red (Q := fun vs H1 => ∃ (T : Sx) (v1 v2 : V), T.σ = S.σ ∧ T.ρ = ρ' ∧ T.H = H1 ∧ Rel X.K T ∧ Kp S T ∧ vs = [v1, v2] ∧ Rp X.K T.F v1 x ∧ Rp X.K T.F v2 y) RS ea fun vs T t1 t2 t3 t4 t5 => by
    cases t5 with
    | cons r1 r2 =>
      cases r2 with
      | cons r2 r3 => cases r3; exact ⟨T, _, _, t1, t2, rfl, t3, t4, rfl, r1, r2⟩
  refine Call_ (ld_blt I hg hm PyProof.Rows.boot_zip (PyProof.Rows.callWith_type1 (thn (ha.run pos pins s _ _ _ I red) fun us s1 ⟨vs, H1, I1, r1, T, v1, v2, t1, t2, t3, RT, kT, ev, rp1, rp2⟩ => ?_) hs hpl))
  subst ev; subst t3
  obtain ⟨u1, u2, rfl, ru1, ru2⟩ := vals2 r1
  obtain ⟨c1, xs, cv1, ca1, cr1⟩ := src_of rp1 ex ru1
  obtain ⟨c2, ys, cv2, ca2, cr2⟩ := src_of rp2 ey ru2
  subst cv1; subst cv2
  have at1 := ca1 _ RT.fh
  have at2 := ca2 _ RT.fh
  obtain ⟨B1, b1, bh1, bl1⟩ := Src.begins (K := X.K) I1 at1
  obtain ⟨B2, b2, bh2, bl2⟩ := Src.begins (K := X.K) I1 at2
  refine zip_begins2 b1 b2 bh1 bh2 fun h' hz hTI hTO h1 h2 hsz hk => wpAny_pyIter_zip hz ?_
  have I2 : Inv X pins S.σ T.H { s1 with heap := h' } := I1.kept (t' := s1.toks) hk
  have D := zip_sep2 bl1 bl2
  have nf : ∀ (c : Src) (k : Nat), (∀ b ∈ c.fp, b < s1.heap.objs.size) → s1.heap.objs.size + k ∉ c.fp := fun c k hl hm => Nat.not_lt.mpr (Nat.le_add_right _ k) (hl _ hm)
  refine ⟨s1.heap.objs.size + 4, [s1.heap.objs.size + 4, s1.heap.objs.size + 2, s1.heap.objs.size + 3, s1.heap.objs.size, s1.heap.objs.size + 1], _, _, T.H, rfl, I2, turn_Z D (nf c1 0 bl1) (nf c2 1 bl2), ⟨hz, hTI, ⟨_, _, hTO⟩, Src.started h1, Src.started h2⟩, fun c hcm => ?_, q _ T t1 t2 RT kT (it_Z ca1 ca2 cr1 cr2)⟩
  have e' : c = s1.heap.objs.size + 4 ∨ c = s1.heap.objs.size + 2 ∨ c = s1.heap.objs.size + 3 ∨ c = s1.heap.objs.size ∨ c = s1.heap.objs.size + 1 := by simpa using hcm
  have hle : s1.heap.objs.size ≤ c := by
    rcases e' with z | z | z | z | z <;> rw [z] <;> first | exact Nat.le_add_right _ _ | exact Nat.le_refl _
  exact I1.fpOk hle (I1.hok.fresh hle)
theorem i_zip3 (hg : Gl X "zip") (hm : X.mg "zip" = none) (ha : PA X [e, e2, e3] (tDA X.K fa))
    (hs : starEach [e, e2, e3] X.env = (false, eval e X.env) :: starEach [e2, e3] X.env := by rfl) (hpl : (backTo pos (starEach [e2, e3] X.env)).any (·.1) = false := by rfl) :
    PI X (.Tuple elts kk tpos) (.Call (.Name "zip" p) [e, e2, e3] [] pos) (tDI X.K (eZip3 fa)) := by
  refine ⟨fun pins s σ H R I ⟨S, items, ρ', z1, z2, RS, ee, q⟩ => ?_⟩
  subst z1; subst z2
  obtain ⟨ds, ρ1, ea, eb⟩ := bnd_some ee
  split at eb <;> cases eb
  next a b c hab =>
  obtain ⟨x, y, z, rfl, ex, ey, ez⟩ := seqsD_three hab
  have red := frzA_red (Q := fun vs H1 => ∃ (T : Sx) (v1 v2 v3 : V), T.σ = S.σ ∧ T.ρ = ρ' ∧ T.H = H1 ∧ Rel X.K T ∧ Kp S T ∧ vs = [v1, v2, v3] ∧ Rp X.K T.F v1 x ∧ Rp X.K T.F v2 y ∧ Rp X.K T.F v3 z) RS ea fun vs T t1 t2 t3 t4 t5 => by
    cases t5 with
    | cons r1 r2 =>
      cases r2 with
      | cons r2 r3 =>
        cases r3 with
        | cons r3 r4 => cases r4; exact ⟨T, _, _, _, t1, t2, rfl, t3, t4, rfl, r1, r2, r3⟩
  refine Call_ (ld_blt I hg hm PyProof.Rows.boot_zip (PyProof.Rows.callWith_type1 (thn (ha.run pos pins s _ _ _ I red) fun us s1 ⟨vs, H1, I1, r1, T, v1, v2, v3, t1, t2, t3, RT, kT, ev, rp1, rp2, rp3⟩ => ?_) hs hpl))
  subst ev; subst t3
  obtain ⟨u1, u2, u3, rfl, ru1, ru2, ru3⟩ : ∃ u1 u2 u3, us = [u1, u2, u3] ∧ RelV v1 u1 ∧ RelV v2 u2 ∧ RelV v3 u3 := by
    cases r1 with
    | cons p1 p2 =>
      cases p2 with
      | cons p2 p3 =>
        cases p3 with
        | cons p3 p4 => cases p4; exact ⟨_, _, _, rfl, p1, p2, p3⟩
  obtain ⟨c1, xs, cv1, ca1, cr1⟩ := src_of rp1 ex ru1
  obtain ⟨c2, ys, cv2, ca2, cr2⟩ := src_of rp2 ey ru2
  obtain ⟨c3, zs, cv3, ca3, cr3⟩ := src_of rp3 ez ru3
  subst cv1; subst cv2; subst cv3
  obtain ⟨B1, b1, bh1, bl1⟩ := Src.begins (K := X.K) I1 (ca1 _ RT.fh)
  obtain ⟨B2, b2, bh2, bl2⟩ := Src.begins (K := X.K) I1 (ca2 _ RT.fh)
  obtain ⟨B3, b3, bh3, bl3⟩ := Src.begins (K := X.K) I1 (ca3 _ RT.fh)
  refine zip_begins3 b1 b2 b3 bh1 bh2 bh3 fun h' hz hTI hTO h1 h2 h3 hsz hk => wpAny_pyIter_zip hz ?_
  have I2 : Inv X pins S.σ T.H { s1 with heap := h' } := I1.kept (t' := s1.toks) hk
  have D := zip_sep3 bl1 bl2 bl3
  have nf : ∀ (c : Src) (k : Nat), (∀ b ∈ c.fp, b < s1.heap.objs.size) → s1.heap.objs.size + k ∉ c.fp := fun c k hl hm => Nat.not_lt.mpr (Nat.le_add_right _ k) (hl _ hm)
  refine ⟨s1.heap.objs.size + 5, [s1.heap.objs.size + 5, s1.heap.objs.size + 3, s1.heap.objs.size + 4, s1.heap.objs.size, s1.heap.objs.size + 1, s1.heap.objs.size + 2], _, _, T.H, rfl, I2, turn_Z3 D (nf c1 0 bl1) (nf c2 1 bl2) (nf c3 2 bl3), ⟨hz, hTI, ⟨_, _, _, hTO⟩, Src.started h1, Src.started h2, Src.started h3⟩, fun c hcm => ?_, q _ T t1 t2 RT kT (it_Z3 ca1 ca2 ca3 cr1 cr2 cr3)⟩
  have e' : c = s1.heap.objs.size + 5 ∨ c = s1.heap.objs.size + 3 ∨ c = s1.heap.objs.size + 4 ∨ c = s1.heap.objs.size ∨ c = s1.heap.objs.size + 1 ∨ c = s1.heap.objs.size + 2 := by simpa using hcm
  have hle : s1.heap.objs.size ≤ c := by
    rcases e' with z | z | z | z | z | z <;> rw [z] <;> first | exact Nat.le_add_right _ _ | exact Nat.le_refl _
  exact I1.fpOk hle (I1.hok.fresh hle)
theorem i_enum (hg : Gl X "enumerate") (hm : X.mg "enumerate" = none) (ha : PA X [e] (tDA X.K fa)) (hs : starEach [e] X.env = [(false, eval e X.env)] := by rfl) :
    PI X (.Tuple elts kk tpos) (.Call (.Name "enumerate" p) [e] [] pos) (tDI X.K (eEnum fa)) := by
  refine ⟨fun pins s σ H R I ⟨S, items, ρ', z1, z2, RS, ee, q⟩ => ?_⟩
  subst z1; subst z2
  obtain ⟨ds, ρ1, ea, eb⟩ := bnd_some ee
  split at eb <;> cases eb
  next a hab =>
  obtain ⟨x, rfl, ex⟩ := seqsD_one hab
  have red := frzA_red (Q := fun vs H1 => ∃ (T : Sx) (v1 : V), T.σ = S.σ ∧ T.ρ = ρ' ∧ T.H = H1 ∧ Rel X.K T ∧ Kp S T ∧ vs = [v1] ∧ Rp X.K T.F v1 x) RS ea fun vs T t1 t2 t3 t4 t5 => by
    cases t5 with
    | cons r1 r2 => cases r2; exact ⟨T, _, t1, t2, rfl, t3, t4, rfl, r1⟩
  refine Call_ (ld_blt I hg hm PyProof.Rows.boot_enumerate (PyProof.Rows.callWith_type1 (thn (ha.run pos pins s _ _ _ I red) fun us s1 ⟨vs, H1, I1, r1, T, v1, t1, t2, t3, RT, kT, ev, rp1⟩ => ?_) hs rfl))
  subst ev; subst t3
  obtain ⟨u1, rfl, ru1⟩ := vals1 r1
  obtain ⟨c1, xs, cv1, ca1, cr1⟩ := src_of rp1 ex ru1
  subst cv1
  obtain ⟨B1, b1, bh1, bl1⟩ := Src.begins (K := X.K) I1 (ca1 _ RT.fh)
  refine enum1 b1 bh1 fun h' he h1 hk => wpAny_pyIter_enum he ?_
  have I2 : Inv X pins S.σ T.H { s1 with heap := h' } := I1.kept (t' := s1.toks) hk
  have nf : ∀ (c : Src) (k : Nat), (∀ b ∈ c.fp, b < s1.heap.objs.size) → s1.heap.objs.size + k ∉ c.fp := fun c k hl hm => Nat.not_lt.mpr (Nat.le_add_right _ k) (hl _ hm)
  refine ⟨s1.heap.objs.size + 1, [s1.heap.objs.size + 1, s1.heap.objs.size], _, _, T.H, rfl, I2, turn_E (Nat.succ_ne_self _) (nf c1 1 bl1) (nf c1 0 bl1), ⟨⟨_, he⟩, Src.started h1⟩, fun c hcm => ?_, q _ T t1 t2 RT kT (it_E ca1 cr1)⟩
  have e' : c = s1.heap.objs.size + 1 ∨ c = s1.heap.objs.size := by simpa using hcm
  have hle : s1.heap.objs.size ≤ c := by
    rcases e' with z | z <;> rw [z] <;> first | exact Nat.le_add_right _ _ | exact Nat.le_refl _
  exact I1.fpOk hle (I1.hok.fresh hle)
end
end DL
set_option Elab.async false
set_option linter.all false
set_option maxRecDepth 100000
/-! DL: dict comprehensions; sorted of a dict's keys; list(range(n)). -/
namespace DL
open PySem PySem.Spec PyProof.Rows L2
def keyEq : PD → Key → Bool
  | .int i, .inl j => decide (i = j)
  | .str x, .inr y => decide (x = y)
  | _, _ => false
theorem keyEq_kD (k j : Key) : keyEq (kD k) j = decide (k = j) := by
  cases k <;> cases j <;> simp [kD, keyEq]
def putD (es : List (PD × PD)) (k : Key) (d : PD) : List (PD × PD) := if (es.any fun e => keyEq e.1 k) = true then es.map (fun e => if keyEq e.1 k = true then (e.1, d) else e) else es ++ [(kD k, d)]
theorem putD_length (es : List (PD × PD)) (k : Key) (d : PD) : (putD es k d).length ≤ es.length + 1 := by
  unfold putD
  split <;> simp
theorem RpK.len {K : PySem.W.Frag} {F : Hp} : ∀ {v : List (Key × V)} {d : List (PD × PD)}, RpK K F v d → v.length = d.length
  | _, _, .nil => rfl
  | _, _, .cons _ r => by rw [List.length_cons, List.length_cons, RpK.len r]
theorem RpK.app {K : PySem.W.Frag} {F : Hp} : ∀ {vs ws : List (Key × V)} {ds es : List (PD × PD)}, RpK K F vs ds → RpK K F ws es → RpK K F (vs ++ ws) (ds ++ es)
  | _, _, _, _, .nil, s => s
  | _, _, _, _, .cons h r, s => .cons h (RpK.app r s)
theorem RpK.any {K : PySem.W.Frag} {F : Hp} (k : Key) : ∀ {v : List (Key × V)} {d : List (PD × PD)}, RpK K F v d → (v.any fun kv => decide (kv.1 = k)) = d.any fun e => keyEq e.1 k
  | _, _, .nil => rfl
  | _, _, .cons h r => by rw [List.any_cons, List.any_cons, RpK.any k r, keyEq_kD]
theorem RpK.upd {K : PySem.W.Frag} {F : Hp} {k : Key} {w : V} {x : PD} (h : Rp K F w x) : ∀ {v : List (Key × V)} {d : List (PD × PD)}, RpK K F v d → RpK K F (v.map fun kv => if kv.1 = k then (kv.1, w) else kv) (d.map fun e => if keyEq e.1 k = true then (e.1, x) else e)
  | _, _, .nil => .nil
  | (kk, vv) :: _, _, .cons q r => by
    rw [List.map_cons, List.map_cons]
    by_cases e : kk = k
    · rw [if_pos e, if_pos (by rw [keyEq_kD]; exact decide_eq_true e)]
      exact .cons h (RpK.upd h r)
    · rw [if_neg e, if_neg (by rw [keyEq_kD]; simpa using e)]
      exact .cons q (RpK.upd h r)
theorem RpK.put {K : PySem.W.Frag} {F : Hp} {k : Key} {w : V} {x : PD} {v : List (Key × V)} {d : List (PD × PD)} (r : RpK K F v d) (h : Rp K F w x) : RpK K F (putK v k w) (putD d k x) := by
  unfold putK putD
  rw [r.any k]
  by_cases e : (d.any fun e => keyEq e.1 k) = true
  · rw [if_pos e, if_pos e]
    exact r.upd h
  · rw [if_neg e, if_neg e]
    exact r.app (.cons h .nil)
/-- a key -/
def eKey (f : M Hd) : M Key := bnd f fun h ρ => match res ρ h with
  | some (.int i) => some (.inl i, ρ)
  | some (.str x) => some (.inr x, ρ)
  | _ => none
def tDKey (K : PySem.W.Frag) (f : M Key) : St → Hp → (Key → Hp → Prop) → Prop := fun σ H Q => ∃ (S : Sx) (b : Key) (ρ' : En), S.σ = σ ∧ S.H = H ∧ Rel K S ∧ f S.ρ = some (b, ρ') ∧
  ∀ (T : Sx), T.σ = σ → T.ρ = ρ' → Rel K T → Kp S T → Q b T.H
theorem key_red {K : PySem.W.Frag} {f : M Hd} (σ : St) (H : Hp) (Q : Key → Hp → Prop) (h : tDKey K (eKey f) σ H Q) : tDE K f σ H fun y H1 => ∃ k, y = kV k ∧ Q k H1 := by
  obtain ⟨S, b, ρ', e1, e2, R, e, q⟩ := h
  subst e1; subst e2
  obtain ⟨h, ρ1, ea, e⟩ := bnd_some e
  refine ⟨S, h, ρ1, rfl, rfl, R, ea, fun v T es er RT kT hT => ?_⟩
  subst er
  cases e3 : res T.ρ h with
  | none => simp only [e3] at e; cases e
  | some d =>
    cases d <;> simp only [e3] at e <;> try cases e
    · cases Rt.int (hT.rt RT e3)
      exact ⟨_, rfl, q T es rfl RT kT⟩
    · cases Rt.str (hT.rt RT e3)
      exact ⟨_, rfl, q T es rfl RT kT⟩
theorem key_get {K : PySem.W.Frag} {tk : M Key} {f : M Hd} (e : tk = eKey f) {S : Sx} {b : Key} {ρ' : En} {Q : Key → Hp → Prop} (R : Rel K S) (h : tk S.ρ = some (b, ρ')) (q : ∀ (T : Sx), T.σ = S.σ → T.ρ = ρ' → Rel K T → Kp S T → Q b T.H) : tDE K f S.σ S.H fun y H1 => ∃ k, y = kV k ∧ Q k H1 := by
  subst e
  exact key_red S.σ S.H Q ⟨S, b, ρ', rfl, rfl, R, h, q⟩
def dcompD (ws : List Nat) (g : Gt) (tt : M Bool) (tk : M Key) (te : M Hd) : List PD → List (PD × PD) → M (List (PD × PD))
  | [], acc, ρ => some (acc, ρ)
  | d :: r, acc, ρ => match g d ρ with
    | none => none
    | some ρ1 => match tt ρ1 with
      | none => none
      | some (false, ρ2) => match wipeE ws ρ2 with
        | none => none
        | some ρ3 => dcompD ws g tt tk te r acc ρ3
      | some (true, ρ2) => match tk ρ2 with
        | none => none
        | some (k, ρ2') => match eFrz te ρ2' with
          | none => none
          | some (x, ρ3) => match wipeE ws ρ3 with
            | none => none
            | some ρ4 => dcompD ws g tt tk te r (putD acc k x) ρ4
def eDComp (ws : List Nat) (fi : M (List PD)) (g : Gt) (tt : M Bool) (tk : M Key) (te : M Hd) : M Hd := bnd fi fun items ρ =>
  if items.length ≤ sizeLine then match wipeE ws ρ with
    | none => none
    | some ρ1 => match dcompD ws g tt tk te items [] ρ1 with
      | none => none
      | some (acc, ρ2) => some (.frD acc, restE ws ρ ρ2)
  else none
theorem dcomp_red {K : PySem.W.Frag} {ws vs : List Nat} {fi : M (List PD)} {g : Gt} {tt : M Bool} {fk te : M Hd} {σ : St} {H : Hp} {Q : VK} (hsub : ∀ i ∈ vs, i ∈ ws) (h : tDE K (eDComp ws fi g tt (eKey fk) te) σ H Q) : tDc (tDI K fi) (tGD K vs g) (tDT K tt) (tDE K fk) (tDE K te) ws σ H Q := by
  obtain ⟨S, h, ρ', e1, e2, R, e, q⟩ := h
  subst e1; subst e2
  obtain ⟨items, ρ1, ea, e⟩ := bnd_some e
  refine ⟨S, items, ρ1, rfl, rfl, R, ea, fun J T es er RT kT hJ D hD => ?_⟩
  subst er
  by_cases hsz : items.length ≤ sizeLine
  · rw [if_pos hsz] at e
    cases ew : wipeE ws T.ρ with
    | none => simp only [ew] at e; cases e
    | some ρw =>
      simp only [ew] at e
      obtain ⟨wl, wn, wv⟩ := wipeE_spec ew
      cases ec : dcompD ws g tt (eKey fk) te items [] ρw with
      | none => simp only [ec] at e; cases e
      | some p =>
        obtain ⟨accf, ρf⟩ := p
        simp only [ec] at e; cases e
        have nD : S.H D = none := kT.new hD
        have wb : ∀ (U : Sx) (ρ' : En), Rel K U → Kp S U → wipeE ws U.ρ = some ρ' → U.σ.length = S.σ.length → (∀ i, i ∉ ws → U.σ[i]? = S.σ[i]?) →
            Rel K ⟨U.F, ρ', wipe S.σ ws, U.H⟩ ∧ Kp S ⟨U.F, ρ', wipe S.σ ws, U.H⟩ ∧ (U.H D ≠ none → ¬ Owns U D → ¬ Ow ρ' (wipe S.σ ws) D) ∧ ∀ i, i ∈ ws → ρ'[i]? = some .un := fun U ρ' RU kU z hl ho => by
          obtain ⟨l, n, v⟩ := wipeE_spec z
          have core : ∀ S0, Kp S0 ⟨U.F, U.ρ, U.σ, U.H⟩ → Rel K ⟨U.F, ρ', wipe S.σ ws, U.H⟩ ∧ Kp S0 ⟨U.F, ρ', wipe S.σ ws, U.H⟩ := fun S0 k0 => by
            refine relink (ws := ws) RU k0 l (by rw [wipe_length]; exact hl.symm) (fun i hi => ⟨n i hi, ?_⟩) (fun i hi s o z1 z2 => ?_) fun i hi ds e => ?_
            · rw [wipe_get, if_neg hi]; exact (ho i hi).symm
            · rw [(v i hi).1] at z1; cases z1
              exact ⟨rfl, trivial⟩
            · obtain ⟨_, s, e2, q⟩ := v i hi
              rw [e] at e2; cases e2; cases q
          exact ⟨(core S kU).1, (core S kU).2, fun hu no z => ((core U (Kp.refl U)).2.own D z).elim no hu, fun i hi => (v i hi).1⟩
        obtain ⟨R0, k0, _, u0⟩ := wb T ρw RT kT ew (by rw [es]) (fun i _ => by rw [es])
        have no0 : ¬ Ow ρw (wipe S.σ ws) D := fun z => (R0.owns z).2 hD
        obtain ⟨R1, k1⟩ := grow_step R0 k0 (grow_new (o := .dK []) R0.fh hD)
        have fD : T.F D = none := RT.fh.free hD
        refine ⟨fun i m H => ∃ (F : Hp) (ρ : En) (acc : List (PD × PD)) (av : List (Key × V)), Rel K ⟨F, ρ, wipe S.σ ws, H⟩ ∧ Kp S ⟨F, ρ, wipe S.σ ws, H⟩ ∧ Same T.F F ∧ F D = none ∧ H D = some (.dK av) ∧ RpK K F av acc ∧ ¬ Ow ρ (wipe S.σ ws) D ∧ (∀ j, j ∈ ws → ρ[j]? = some .un) ∧ acc.length ≤ i ∧ i ≤ items.length ∧ m = items.length - i ∧ dcompD ws g tt (eKey fk) te (items.drop i) acc ρ = some (accf, ρf),
          ⟨_, T.F, ρw, [], [], R1, k1, Same.refl _, fD, upd_same, .nil, no0, u0, Nat.le_refl _, Nat.zero_le _, rfl, by rw [List.drop_zero]; exact ec⟩, ?_⟩
        rintro i m H ⟨F, ρ, acc, av, RU, kU, sU, fU, hU, rU, nU, uU, hlen, hle, rfl, eU⟩
        obtain ⟨go, stop⟩ := hJ i F H sU RU.fh
        by_cases hlt : i < items.length
        · obtain ⟨g1, g2⟩ := go _ (List.getElem?_eq_getElem hlt)
          rw [List.drop_eq_getElem_cons hlt] at eU
          simp only [dcompD] at eU
          cases e3 : g items[i] ρ with
          | none => simp only [e3] at eU; cases eU
          | some ρ2 =>
            simp only [e3] at eU
            refine .inr ⟨g1, fun H' => ∃ (F : Hp) (ρ : En) (acc : List (PD × PD)) (av : List (Key × V)), Rel K ⟨F, ρ, wipe S.σ ws, H'⟩ ∧ Kp S ⟨F, ρ, wipe S.σ ws, H'⟩ ∧ Same T.F F ∧ F D = none ∧ H' D = some (.dK av) ∧ RpK K F av acc ∧ ¬ Ow ρ (wipe S.σ ws) D ∧ (∀ j, j ∈ ws → ρ[j]? = some .un) ∧ acc.length ≤ i + 1 ∧ dcompD ws g tt (eKey fk) te (items.drop (i + 1)) acc ρ = some (accf, ρf),
              fun H' ⟨F, ρ, acc, av, a1, a2, a3, a4, a5, a6, a7, a8, a9, a10⟩ => ⟨items.length - (i + 1), by omega, F, ρ, acc, av, a1, a2, a3, a4, a5, a6, a7, a8, a9, by omega, rfl, a10⟩, fun x H' y => ?_⟩
            obtain ⟨F', gr, rx⟩ := g2 x H' y
            have RU1 := RU.grow gr
            have kU1 := kU.trans (Kp.grow gr)
            have hU1 : H' D = some (.dK av) := gr.hh _ _ hU
            have fU1 : F' D = none := gr.nof D (by rw [show H D = _ from hU]; simp) fU
            have rU1 : RpK K F' av acc := rU.mono gr.ff
            refine ⟨⟨F', ρ, wipe S.σ ws, H'⟩, items[i], ρ2, rfl, rfl, RU1, rx, e3, fun T2 r2 off2 R2 k2 => ?_⟩
            have lT2 : T2.σ.length = S.σ.length := off2.2.1.trans (wipe_length _ _)
            have oT2 : ∀ j, j ∉ ws → T2.σ[j]? = S.σ[j]? := fun j hj => by
              rw [off2.2.2 j (fun z => hj (hsub j z))]
              show (wipe S.σ ws)[j]? = _
              rw [wipe_get, if_neg hj]
            refine ⟨wipe_eq lT2 oT2, ?_⟩
            cases e4 : tt ρ2 with
            | none => simp only [e4] at eU; cases eU
            | some p =>
              obtain ⟨b, ρ3⟩ := p
              refine ⟨T2, b, ρ3, rfl, rfl, R2, by rw [r2]; exact e4, fun T3 s3 r3 R3 k3 => ?_⟩
              have k13 : Kp ⟨F', ρ, wipe S.σ ws, H'⟩ T3 := k2.trans k3
              have hne : (⟨F', ρ, wipe S.σ ws, H'⟩ : Sx).H D ≠ none := by rw [show (⟨F', ρ, wipe S.σ ws, H'⟩ : Sx).H D = _ from hU1]; simp
              have n3 : ¬ Owns T3 D := k13.nown hne nU
              have h3 : T3.H D = some (.dK av) := k13.keep D _ hU1 nU
              have f3 : T3.F D = none := k13.nof D hne fU1 nU
              cases b with
              | false =>
                simp only [e4] at eU
                refine L2.iteF ?_
                cases e5 : wipeE ws ρ3 with
                | none => simp only [e5] at eU; cases eU
                | some ρ4 =>
                  simp only [e5] at eU
                  obtain ⟨R4, k4, n4, u4⟩ := wb T3 ρ4 R3 (kU1.trans k13) (by rw [r3]; exact e5) (by rw [s3]; exact lT2) (fun j hj => by rw [s3]; exact oT2 j hj)
                  exact ⟨T3.F, ρ4, acc, av, R4, k4, (sU.trans gr.ff).trans k13.ff, f3, h3, rU1.mono k13.ff, n4 (by rw [h3]; simp) n3, u4, by omega, eU⟩
              | true =>
                simp only [e4] at eU
                refine L2.iteT ?_
                cases e50 : eKey fk ρ3 with
                | none => simp only [e50] at eU; cases eU
                | some p0 =>
                obtain ⟨ky, ρk⟩ := p0
                simp only [e50] at eU
                obtain ⟨hK, ρk0, e51, e52⟩ := bnd_some e50
                refine ⟨T3, hK, ρk0, s3, rfl, R3, by rw [r3]; exact e51, fun vk T33 s33 r33' R33 k33 q33 => ?_⟩
                have hkk : vk = kV ky ∧ ρk = T33.ρ := by
                  rw [← r33'] at e52
                  cases e53 : res T33.ρ hK with
                  | none => simp only [e53] at e52; cases e52
                  | some d =>
                    cases d <;> simp only [e53] at e52 <;> try cases e52
                    · exact ⟨Rt.int (q33.rt R33 e53), rfl⟩
                    · exact ⟨Rt.str (q33.rt R33 e53), rfl⟩
                obtain ⟨rfl, r33⟩ := hkk
                cases e5 : eFrz te ρk with
                | none => simp only [e5] at eU; cases eU
                | some p =>
                  obtain ⟨d, ρ5⟩ := p
                  simp only [e5] at eU
                  obtain ⟨h, ρ4, e6, e7⟩ := bnd_some e5
                  have k133 : Kp ⟨F', ρ, wipe S.σ ws, H'⟩ T33 := k13.trans k33
                  have n33 : ¬ Owns T33 D := k133.nown hne nU
                  have h33 : T33.H D = some (.dK av) := k133.keep D _ hU1 nU
                  have f33 : T33.F D = none := k133.nof D hne fU1 nU
                  refine ⟨T33, h, ρ4, s33, rfl, R33, by rw [← r33]; exact e6, fun v ⟨F4, ρ4', σ4, H4⟩ s4 r4 R4 k4 q4 => ?_⟩
                  simp only at s4 r4; subst r4
                  have h3n : T33.H D ≠ none := by rw [h33]; simp
                  have n4 : ¬ Ow ρ4' σ4 D := k4.nown h3n n33
                  have h4 : H4 D = some (.dK av) := k4.keep D _ h33 n33
                  have f4 : F4 D = none := k4.nof D h3n f33 n33
                  obtain ⟨F5, R5, k5, r5, s5, nd, no⟩ := frz_ok R4 ((kU1.trans k133).trans k4) (q4.back (kU1.trans k133)) e7
                  have f5 : F5 D = none := by
                    by_cases z : F5 D = F4 D
                    · rw [z]; exact f4
                    · exfalso
                      obtain ⟨z1, z2⟩ := nd D z
                      rcases z2 with z2 | z2
                      · cases h with
                        | dat d => cases z2
                        | slot d => cases z2
                        | frL ds => obtain ⟨a, vs, e, n, _⟩ := q4; rw [z1] at e; cases e; exact h3n n
                        | frD ds => obtain ⟨a, vs, e, n, _⟩ := q4; rw [z1] at e; cases e; exact h3n n
                      · exact n4 z2
                  have n5 : ¬ Ow ρ5 σ4 D := fun z => n4 (no D z)
                  cases e8 : wipeE ws ρ5 with
                  | none => simp only [e8] at eU; cases eU
                  | some ρ6 =>
                    simp only [e8] at eU
                    obtain ⟨R6, k6, n6, u6⟩ := wb ⟨F5, ρ5, σ4, H4⟩ ρ6 R5 k5 e8 (by show σ4.length = _; rw [s4]; exact lT2) (fun j hj => by show σ4[j]? = _; rw [s4]; exact oT2 j hj)
                    have h4n : H4 D ≠ none := by rw [h4]; simp
                    have n6' := n6 h4n n5
                    obtain ⟨R7, k7⟩ := upd_rel (o := .dK (putK av ky v)) R6 k6 nD f5 h4n n6'
                    have la : av.length = acc.length := rU.len
                    exact ⟨av, ky, rfl, h4, by omega, F5, ρ6, putD acc ky d, putK av ky v, R7, k7, (((sU.trans gr.ff).trans k133.ff).trans k4.ff).trans s5, f5, upd_same, (((rU1.mono k133.ff).mono k4.ff).mono s5).put r5, n6', u6, by have := putD_length acc ky d; omega, eU⟩
        · rw [List.drop_eq_nil_of_le (by omega)] at eU
          simp only [dcompD] at eU; cases eU
          refine .inl ⟨stop (by omega), ?_⟩
          obtain ⟨rl, rn, rv⟩ := restE_spec ws T.ρ ρf
          have core : ∀ S0, Kp S0 ⟨F, ρf, wipe S.σ ws, H⟩ → Rel K ⟨F, restE ws T.ρ ρf, S.σ, H⟩ ∧ Kp S0 ⟨F, restE ws T.ρ ρf, S.σ, H⟩ := fun S0 k0 => by
            refine relink (ws := ws) RU k0 rl (wipe_length _ _).symm (fun j hj => ⟨rn j hj, ?_⟩) (fun j hj s o z1 z2 => ?_) fun j hj ds e => ?_
            · rw [wipe_get, if_neg hj]
            · have hlt' : j < ρf.length := by
                have := (List.getElem?_eq_some_iff.mp (uU j hj)).1
                exact this
              rw [rv j hj hlt'] at z1
              obtain ⟨_, s', e2, q2⟩ := wv j hj
              rw [e2] at z1
              cases z1
              have so := RT.slot j _ o e2 (by rw [es]; exact z2)
              refine ⟨q2, ?_⟩
              cases s' with
              | un => trivial
              | val d => obtain ⟨v, e, r⟩ := so; exact ⟨v, e, r.mono sU⟩
              | own d => cases q2
              | bor d => cases q2
              | odk d => cases q2
              | scr d => obtain ⟨v, e, r⟩ := so; exact ⟨v, e, sU.seq r⟩
            · rw [uU j hj] at e; cases e
          obtain ⟨Rf, kf⟩ := core S kU
          have nf : ¬ Ow (restE ws T.ρ ρf) S.σ D := fun z => ((core _ (Kp.refl _)).2.own D z).elim nU (by show H D ≠ none; rw [hU]; simp)
          exact q (.ref D) ⟨F, restE ws T.ρ ρf, S.σ, H⟩ rfl rfl Rf kf ⟨D, av, rfl, nD, fU, hU, rU, nf⟩
  · rw [if_neg hsz] at e; cases e

theorem d_dcomp {X : Cx} {kx vx tg iter : Expr} {ifs : List Expr} {scope : Scope} {own : List (Str × Nat)} {pos : Pos} {vs : List Nat} {fi : M (List PD)} {g : Gt} {tt : M Bool} {fk te : M Hd} (hc : X.calm = true) (hN : X.N.Nodup) (hi : PI X tg iter (tDI X.K fi)) (ok : BlkOk X.N X.env.scope scope own) (hsub : ∀ i ∈ vs, i ∈ own.map (·.2))
    (hg : ∀ (s : Shared) (H : Hp) (C : Addr) (cl : List (Str × Addr)) (fp : List Addr), PG (X.blk s H scope (compEnvC scope cl C X.env) fp) tg (tGD X.K vs g))
    (ht : ∀ (s : Shared) (H : Hp) (C : Addr) (cl : List (Str × Addr)) (fp : List Addr), PTs (X.blk s H scope (compEnvC scope cl C X.env) fp) ifs (tDT X.K tt))
    (hk : ∀ (s : Shared) (H : Hp) (C : Addr) (cl : List (Str × Addr)) (fp : List Addr), PE (X.blk s H scope (compEnvC scope cl C X.env) fp) kx (tDE X.K fk))
    (he : ∀ (s : Shared) (H : Hp) (C : Addr) (cl : List (Str × Addr)) (fp : List Addr), PE (X.blk s H scope (compEnvC scope cl C X.env) fp) vx (tDE X.K te)) (hs : ∀ x, foldedSetIterable iter X.env x = pure x := by intro _; rfl) :
    PE X (.DictComp kx vx [⟨tg, iter, ifs, 0⟩] scope pos) (tDE X.K (eDComp (own.map (·.2)) fi g tt (eKey fk) te)) := pe_weak (pe_dc hc hN hi ok hg ht hk he hs) fun _ _ _ h => dcomp_red hsub h
end DL
set_option Elab.async false
set_option linter.all false
set_option maxRecDepth 100000
/-! DL: sorted(set(xs)) of nums, sorted(d), list(range(n)), a, b, c = x, y, z. -/
namespace DL
open PySem PySem.Spec PyProof.Rows L2
section
variable {P : Program} {w : World} {A : Around} {E : Value → Shared → Prop} {s : Shared}
set_option maxHeartbeats 3200000 in
theorem set_of_ints {l : Addr} {row : Array Value} (nums : List Int) {Q : Value → Shared → Prop} (calm : A.handled = none) (hrow : s.heap.IsList l row) (hints : IntsAre row.toList nums) (room : nums.length + 1 < scanBound)
    (h : ∀ (h' : Heap) (tok c : Nat), SetR w h' s.heap.objs.size (fun j => decide (j ∈ nums)) c → c ≤ nums.length → (∀ b o, s.heap.get? b = some o → h'.get? b = some o) → Q (.ref s.heap.objs.size) { s with heap := h', toks := tok }) :
    wpAny (model P w) A (call (.type "set") [.ref l]) Q E s := by
  have size_eq : row.size = nums.length := by
    have q := IntsAre.length hints
    rw [Array.length_toList] at q
    exact q
  obtain ⟨c, tl, mroS⟩ := F.called_set.mro
  have madeS := F.called_set.made
  have subS := F.called_set.sub
  refine wpAny_call (codeAny_of_tree ?_)
  show wpAny _ _ (callAny (.type "set") _) _ _ _
  refine wpAny_pure ⟨Code.quiet_builtin _ (by decide +kernel), codeAny_builtin F.entry_type_call ?_⟩
  rw [Around.under_plain (weight_type_call_type "set" [.ref l] []) rfl]
  have nt := F.called_set.notType
  have cc := F.called_set.canCreate
  have tcall := F.typeCall_set_1 (.ref l)
  repeat (any_goals (first | assumption | wp_step))

  refine codeAny_mono (code_set_led1 (.ref l) (E := E) (Q₁ := fun made s₁ => made = .ref s.heap.objs.size ∧ s₁ = { s with heap := s.heap.push { cls := .type "set", dict := none, data := .set #[] 0 (.fresh 0 0 (!w.params.followText "set-order")) } }) ⟨rfl, rfl⟩) fun r s₁ hr => ?_
  cases r with
  | error e => exact hr
  | ok fl =>
    cases fl with
    | ret made =>
      obtain ⟨rfl, rfl⟩ := hr
      have atS : (s.heap.push { cls := .type "set", dict := none, data := .set #[] 0 (.fresh 0 0 (!w.params.followText "set-order")) }).get? s.heap.objs.size = some { cls := .type "set", dict := none, data := .set #[] 0 (.fresh 0 0 (!w.params.followText "set-order")) } := Heap.get?_push_size _ rfl
      have tyS : Shared.TypeIs { s with heap := s.heap.push { cls := .type "set", dict := none, data := .set #[] 0 (.fresh 0 0 (!w.params.followText "set-order")) } } (.ref s.heap.objs.size) "set" := ⟨_, atS, rfl⟩
      have initS := F.called_set.init.lookup
      have bindS := F.called_set.init.bind (.ref s.heap.objs.size)
      repeat (any_goals (first | assumption | wp_step))

      refine codeAny_mono (codeAny_call_builtin (R := wants (fun r s₂ => r = .none ∧ ∃ h' tok c, s₂ = { s with heap := h', toks := tok } ∧ SetR w h' s.heap.objs.size (fun j => decide (j ∈ nums)) c ∧ c ≤ nums.length ∧
          (∀ b o, s.heap.get? b = some o → h'.get? b = some o)) E) F.called_set.init.plain F.entry_set_init (check_set_init_1 tyS ?_)) fun r₂ s₂ hr₂ => ?_
      · obtain ⟨ol, objL, clsL, nl, datL⟩ := hrow
        obtain ⟨ocls, odict, odata, oslots⟩ := ol
        simp only at clsL datL
        subst clsL; subst datL
        have objL' : (s.heap.push { cls := .type "set", dict := none, data := .set #[] 0 (.fresh 0 0 (!w.params.followText "set-order")) }).get? l = some { cls := .type "list", dict := odict, data := .seq row nl, slots := oslots } := Heap.get?_push_of_some _ objL
        have subA := F.sub_list_set
        have subB := F.sub_list_frozenset
        have apart : (Value.type "list" == Value.type "dict") = false := by decide
        have hl1 : (s.heap.push { cls := .type "set", dict := none, data := .set #[] 0 (.fresh 0 0 (!w.params.followText "set-order")) }).IsList l row := ⟨_, objL', rfl, nl, rfl⟩
        unfold Builtin.«set.__init__» noKeywords Builtin.Frozenset.updateFrom
        generalize ePI : pyIter = itf
        wp_walk
        subst ePI

        refine wpAny_pyIter_list hl1 ?_
        refine wpAny_bind (wpAny_runValue ?_)
        have below : l < s.heap.objs.size := Heap.lt_size objL
        have calm3 : A.in1.in1.in1.handled = none := by simp [calm]
        have sz1 : (s.heap.push { cls := .type "set", dict := none, data := .set #[] 0 (.fresh 0 0 (!w.params.followText "set-order")) }).objs.size = s.heap.objs.size + 1 := Heap.size_push ..
        have apartI : l ≠ (s.heap.push { cls := .type "set", dict := none, data := .set #[] 0 (.fresh 0 0 (!w.params.followText "set-order")) }).objs.size := by
          rw [Heap.size_push]; exact Nat.ne_of_lt (Nat.lt_succ_of_lt below)
        have outS : s.heap.objs.size ∉ [(s.heap.push { cls := .type "set", dict := none, data := .set #[] 0 (.fresh 0 0 (!w.params.followText "set-order")) }).objs.size, l] := by
          rw [Heap.size_push]; simp only [List.mem_cons, List.mem_singleton, List.not_mem_nil, or_false, not_or]
          exact ⟨Nat.ne_of_lt (Nat.lt_succ_self _), Nat.ne_of_gt below⟩
        have each : ∀ (i : Nat) (v : Value), row[i]? = some v → ∃ k t, nums[i]? = some k ∧ v = .int k t := fun i v hv => by
          have hi : i < nums.length := by rw [← size_eq]; exact (Array.getElem?_eq_some_iff.mp hv).1
          obtain ⟨t, e⟩ := PyProof.Rows.IntsAre.int_at hints i v (by rw [Array.getElem?_toList]; exact hv)
          refine ⟨nums[i], t, List.getElem?_eq_getElem hi, ?_⟩
          rw [e, List.getD_eq_getElem?_getD, List.getElem?_eq_getElem hi] <;> rfl
        refine set_update_ints ((Walks.list calm3 _ l apartI row).toS) s.heap.objs.size
          outS nums size_eq room each (row.size - 0) 0 _ (by omega) (Nat.zero_le _)
          ⟨⟨_, Heap.get?_push_size _ rfl, rfl, rfl⟩, (hl1.push _)⟩ ?hS0 ?hR
        case hS0 =>
          have got : ((s.heap.push { cls := .type "set", dict := none, data := .set #[] 0 (.fresh 0 0 (!w.params.followText "set-order")) }).push { cls := .type "list_iterator", data := .fields #[.ref l, .int 0 0] }).get? s.heap.objs.size
              = some { cls := .type "set", dict := none, data := .set #[] 0 (.fresh 0 0 (!w.params.followText "set-order")) } := Heap.get?_push_of_some _ atS
          exact ⟨0, Nat.le_refl 0, setR_new_at got⟩
        case hR =>
          intro s' c' mv hc' atS'
          obtain ⟨h', g2, d', tk', os'⟩ := s'
          have eg : g2 = s.gens := mv.gens
          have ed : d' = s.drawn := mv.drawn
          have eo : os' = s.os := mv.os
          subst eg; subst ed; subst eo
          show wpAny _ _ _ _ _ _
          refine wpAny_pure ?_
          show wpAny _ _ (ret Value.none) _ _ _
          rw [size_eq] at hc'
          refine wpAny_pure ⟨rfl, h', tk', c', rfl, atS', hc', fun b o e => ?_⟩
          have hb0 : b < s.heap.objs.size := Heap.lt_size e
          have hb1 : b ≠ s.heap.objs.size := Nat.ne_of_lt hb0
          have hb2 : b ≠ (s.heap.push { cls := .type "set", dict := none, data := .set #[] 0 (.fresh 0 0 (!w.params.followText "set-order")) }).objs.size := by
            rw [Heap.size_push]; exact Nat.ne_of_lt (Nat.lt_succ_of_lt hb0)
          exact mv.heap b o (by simp only [List.mem_cons, List.mem_singleton, List.not_mem_nil, or_false, not_or]; exact ⟨hb1, hb2⟩) (Heap.get?_push_of_some _ (Heap.get?_push_of_some _ e))

      · cases r₂ with
        | error e => exact hr₂
        | ok fl₂ =>
          cases fl₂ with
          | ret r =>
            obtain ⟨rfl, h', tok, c', rfl, atS', hc', keep1⟩ := hr₂
            repeat (any_goals (first | assumption | wp_step))
            exact h _ _ _ atS' hc' keep1
          | _ => exact hr₂.elim
    | _ => exact hr.elim
end
variable {X : Cx}
theorem cr_setOfI (hc : X.calm = true) : CallR X (.type "set") (fun xs H Q => ∃ (a : Addr) (ns : List Int), xs = [.ref a] ∧ SqL X.K H a (ns.map V.int) ∧ ns.length ≤ 1000 ∧
    ∀ p n, n ≤ ns.length → H p = none → Q (.ref p) (upd H p (SetO X.w p (fun j => decide (j ∈ ns)) n))) := by
  intro pins s σ H xs us Q I r ⟨a, ns, e, hq, hl, q⟩
  subst e
  obtain ⟨its, rv, pl, hz⟩ := I.list hq
  rw [Vals.ref1 r]
  refine set_of_ints (P := X.prog) (w := X.w) ns (I.ok.hd hc) pl.isList (ints_of_vals rv) (by unfold scanBound; omega) fun h' tk c R hcn k => ?_
  exact ⟨.ref s.heap.objs.size, upd H s.heap.objs.size (SetO X.w s.heap.objs.size (fun j => decide (j ∈ ns)) c), I.laid (t' := tk) k (Nat.le_refl _) (setO_new R), rfl, q _ c hcn (I.hok.fresh (Nat.le_refl _))⟩
/-- nums in rising order, each once -/
def insI (x : Int) : List Int → List Int
  | [] => [x]
  | y :: r => if x < y then x :: y :: r else if x = y then y :: r else y :: insI x r
def setI (ns : List Int) : List Int := ns.foldr insI []
theorem insI_mem {x y : Int} : ∀ {l : List Int}, y ∈ insI x l ↔ y = x ∨ y ∈ l
  | [] => by simp [insI]
  | z :: r => by
    unfold insI
    split
    · simp
    · split
      · next h => subst h; simp
      · rw [List.mem_cons, insI_mem, List.mem_cons]
        constructor
        · rintro (h | h | h) <;> simp [h]
        · rintro (h | h | h) <;> simp [h]
theorem insI_up (x : Int) : ∀ {l : List Int}, l.Pairwise (· < ·) → (insI x l).Pairwise (· < ·)
  | [], _ => by simp [insI]
  | z :: r, h => by
    obtain ⟨h1, h2⟩ := List.pairwise_cons.mp h
    unfold insI
    split
    · next hx =>
      refine List.pairwise_cons.mpr ⟨fun y hy => ?_, h⟩
      rcases List.mem_cons.mp hy with rfl | hy
      · exact hx
      · have := h1 y hy; omega
    · split
      · exact h
      · next h3 h4 =>
        refine List.pairwise_cons.mpr ⟨fun y hy => ?_, insI_up x h2⟩
        rcases insI_mem.mp hy with rfl | hy
        · omega
        · exact h1 y hy
theorem setI_up : ∀ ns : List Int, (setI ns).Pairwise (· < ·)
  | [] => .nil
  | n :: ns => insI_up n (setI_up ns)
theorem setI_mem {y : Int} : ∀ {ns : List Int}, y ∈ setI ns ↔ y ∈ ns
  | [] => by simp [setI]
  | n :: ns => by
    show y ∈ insI n (setI ns) ↔ _
    rw [insI_mem, setI_mem, List.mem_cons]
theorem up_eq : ∀ {l m : List Int}, l.Pairwise (· < ·) → m.Pairwise (· < ·) → (∀ k, k ∈ l ↔ k ∈ m) → l = m
  | [], [], _, _, _ => rfl
  | [], y :: m, _, _, h => by have := (h y).mpr (List.mem_cons_self ..); cases this
  | x :: l, [], _, _, h => by have := (h x).mp (List.mem_cons_self ..); cases this
  | x :: l, y :: m, h1, h2, h => by
    obtain ⟨a1, a2⟩ := List.pairwise_cons.mp h1
    obtain ⟨b1, b2⟩ := List.pairwise_cons.mp h2
    have e : x = y := by
      rcases List.mem_cons.mp ((h x).mp (List.mem_cons_self ..)) with z | z
      · exact z
      · rcases List.mem_cons.mp ((h y).mpr (List.mem_cons_self ..)) with z' | z'
        · exact z'.symm
        · have := a1 y z'; have := b1 x z; omega
    subst e
    rw [up_eq a2 b2 fun k => ?_]
    constructor
    · intro hk
      rcases List.mem_cons.mp ((h k).mp (List.mem_cons_of_mem _ hk)) with z | z
      · subst z; exact absurd (a1 k hk) (Int.lt_irrefl k)
      · exact z
    · intro hk
      rcases List.mem_cons.mp ((h k).mpr (List.mem_cons_of_mem _ hk)) with z | z
      · subst z; exact absurd (b1 k hk) (Int.lt_irrefl k)
      · exact z
def gSrtSet : List PD → Option Hd
  | [.list ds] => match intsD ds with
    | some ns => if ns.length < 64 then some (.frL ((setI ns).map .int)) else none
    | none => none
  | _ => none
theorem d_srtSet {e : Expr} {p p2 pos pos2 : Pos} {fa : M Hd} (hc : X.calm = true) (hg : Gl X "sorted") (hm : X.mg "sorted" = none) (hg2 : Gl X "set") (hm2 : X.mg "set" = none) (he : PE X e (tDE X.K fa))
    (hs : starEach [e] X.env = (false, eval e X.env) :: starEach [] X.env := by rfl) (hs2 : starEach [.Call (.Name "set" p2) [e] [] pos2] X.env = (false, eval (.Call (.Name "set" p2) [e] [] pos2) X.env) :: starEach [] X.env := by rfl) :
    PE X (.Call (.Name "sorted" p) [.Call (.Name "set" p2) [e] [] pos2] [] pos) (tDE X.K (e1 gSrtSet fa)) := by
  refine pe_weak (pe_callB (cr_sortedSet hc) hg hm rfl (pa_cons (pe_callTy (cr_setOfI hc) hg2 hm2 rfl (pa_cons he pa_nil hs) (by decide) (by decide) hs rfl) pa_nil hs2) (by decide) (by decide) hs2 rfl) fun σ H Q h => ?_
  obtain ⟨S, r, ρ', z1, z2, z3, z4, z5⟩ := one_red (op_red h)
  refine ⟨S, r, ρ', z1, z2, z3, z4, fun v T a1 a2 a3 a4 a5 => ?_⟩
  obtain ⟨F, d, h, sm, r1, e, q⟩ := GOp.p1 (z5 v T a1 a2 a3 a4 a5)
  unfold gSrtSet at e
  split at e
  · next ds ee =>
    cases ee
    split at e
    · next ns hn =>
      split at e <;> cases e
      next hz =>
      obtain ⟨a, xs, rfl, ha, pa⟩ := r1
      rw [intsD_of hn] at pa
      rw [pa.ints] at ha
      refine ⟨a, ns, rfl, sqL_of ha, by omega, fun p n hn' np => ⟨p, _, n, rfl, upd_same, by omega, fun ms p2 h1 h2 h3 np2 => ?_⟩⟩
      have e1 : ms = setI ns := up_eq h1 (setI_up ns) fun k => by
        rw [h2, setI_mem, decide_eq_true_eq]
      subst e1
      have hp : p2 ≠ p := fun z => by subst z; rw [upd_same] at np2; cases np2
      have np3 : T.H p2 = none := by rw [upd_ne hp] at np2; exact np2
      have g1 := grow_new (o := SetO X.w p (fun j => decide (j ∈ ns)) n) sm np
      have g2 := grow_new (o := .lst ((setI ns).map V.int)) g1.fh np2
      exact q (.ref p2) F _ (g1.trans g2) ⟨p2, _, rfl, np3, sm.free np3, upd_same, RpA.ofInts _⟩
    · cases e
  · cases e

/-! ### sorted(d), keys nums, fewer than 64 -/
def gSrt : List PD → Option Hd
  | [.dict es] => match intsD (es.map (·.1)) with
    | some ns => if ns.length < 64 then some (.frL ((srtI ns).map .int)) else none
    | none => none
  | ds => gSorted ds
theorem RpK.keys {K : PySem.W.Frag} {F : Hp} : ∀ {v : List (Key × V)} {d : List (PD × PD)} {ns : List Int}, RpK K F v d → d.map (·.1) = ns.map PyData.int → v.map (·.1) = ns.map Sum.inl
  | _, _, [], .nil, _ => rfl
  | _, _, _ :: _, .nil, e => by simp at e
  | _, _, [], .cons _ _, e => by simp at e
  | (k, v) :: _, _, n :: ns, .cons h r, e => by
    rw [List.map_cons, List.map_cons] at e
    obtain ⟨e1, e2⟩ := List.cons.inj e
    rw [List.map_cons, List.map_cons, RpK.keys r e2]
    cases k with
    | inl i => cases e1; rfl
    | inr i => cases e1
theorem call_srt_D (hc : X.calm = true) : CallR X (.builtin "sorted") (GOp X.K gSrt) := by
  intro pins s σ H xs us Q I r ⟨F, ds, h, sm, ra, e, q⟩
  unfold gSrt at e
  split at e
  · next es =>
    obtain ⟨x, rfl, r1⟩ := ra.one
    split at e
    · next ns hn =>
      split at e <;> cases e
      next hz =>
      obtain ⟨a, xs, rfl, ha, pa⟩ := r1
      refine call_sortedDI hc pins s σ H _ us Q I r ⟨a, xs, ns, rfl, .inl ha, pa.keys (intsD_of hn), hz, fun ms p h1 h2 np => ?_⟩
      rw [srtI_eq h1 h2]
      exact GOp.newL sm q (RpA.ofInts _) np
    · cases e
  · exact call_sorted_D pins s σ H xs us Q I r ⟨F, ds, h, sm, ra, e, q⟩

/-! ### list(range(n)) -/
noncomputable def rgOk (i j : Int) : Bool := cdec (-4611686018427387904 ≤ i ∧ i < 4611686018427387904 ∧ -4611686018427387904 ≤ j ∧ j < 4611686018427387904 ∧ j - i ≤ 16777216)
theorem rgOk_of {i j : Int} (h : rgOk i j = true) : RgOk i j := by
  have := cdec_iff.mp h
  unfold RgOk
  omega
theorem RpA.rng {K : PySem.W.Frag} {F : Hp} (i j : Int) : RpA K F (rgV i j) (rng i (j - i).toNat) := by
  unfold rgV DL.rng
  generalize List.range (j - i).toNat = l
  induction l with
  | nil => exact .nil
  | cons a l ih => exact .cons (.int _) ih
noncomputable def eLR1 (f : M Hd) : M Hd := bnd (eInt f) fun j ρ => if rgOk 0 j = true then some (.frL (rng 0 j.toNat), ρ) else none
theorem d_lr1 {e : Expr} {fa : M Hd} {p p2 pos pos2 : Pos} (hc : X.calm = true) (hg : Gl X "list") (hm : X.mg "list" = none) (hg2 : Gl X "range") (hm2 : X.mg "range" = none) (he : PE X e (tDE X.K fa))
    (hs : starEach [e] X.env = (false, eval e X.env) :: starEach [] X.env := by rfl) (hs2 : starEach [.Call (.Name "range" p2) [e] [] pos2] X.env = (false, eval (.Call (.Name "range" p2) [e] [] pos2) X.env) :: starEach [] X.env := by rfl) :
    PE X (.Call (.Name "list" p) [.Call (.Name "range" p2) [e] [] pos2] [] pos) (tDE X.K (eLR1 fa)) := by
  refine pe_weak (pe_listRg hc hg hm (prg_1 hg2 hm2 he hs) hs2) fun σ H Q ⟨S, h, ρ', z1, z2, R, ee, q⟩ => ?_
  subst z1; subst z2
  obtain ⟨j, ρ1, ea, eb⟩ := bnd_some ee
  have eb' : (if rgOk 0 j = true then some (Hd.frL (rng 0 j.toNat), ρ1) else none) = some (h, ρ') := eb
  split at eb' <;> cases eb'
  next hr =>
  have red : tDE X.K fa S.σ S.H fun x H1 => x = .int j ∧ ∀ p, H1 p = none → Q (.ref p) (upd H1 p (.lst (rgV 0 j))) := by
    refine int_red (Q := fun x H1 => x = .int j ∧ ∀ p, H1 p = none → Q (.ref p) (upd H1 p (.lst (rgV 0 j)))) R ea fun T t1 t2 t3 t4 => ⟨rfl, fun p np => ?_⟩
    have gr := grow_new (o := .lst (rgV 0 j)) t3.fh np
    have rp : RpA X.K T.F (rgV 0 j) (rng 0 j.toNat) := by
      have := RpA.rng (K := X.K) (F := T.F) 0 j
      rwa [Int.sub_zero] at this
    exact q (.ref p) ⟨T.F, T.ρ, T.σ, _⟩ t1 t2 (t3.grow gr) (t4.trans (Kp.grow gr)) ⟨p, _, rfl, t4.new np, t3.fh.free np, upd_same, rp, fun z => (t3.owns z).2 np⟩
  obtain ⟨S', h', ρ2, b1, b2, b3, b4, b5⟩ := red
  refine ⟨S', h', ρ2, b1, b2, b3, b4, fun v T t1 t2 t3 t4 t5 => ?_⟩
  obtain ⟨e1, e2⟩ := b5 v T t1 t2 t3 t4 t5
  exact ⟨j, e1, rgOk_of hr, e2⟩
end DL
set_option Elab.async false
set_option linter.all false
set_option maxRecDepth 100000
/-! DL: a, b, c = x, y, z. -/
namespace DL
open PySem PySem.Spec PyProof.Rows L2
theorem thaw_all {K : PySem.W.Frag} {S0 : Sx} {F H : Hp} {ρ ρ' : En} {σ : St} {v : V} {h g : Hd} (R : Rel K ⟨F, ρ, σ, H⟩) (k : Kp S0 ⟨F, ρ, σ, H⟩) (q : HdOk K S0 ⟨F, ρ, σ, H⟩ v h) (e : thaw h ρ = some (g, ρ')) :
    ∃ F', Rel K ⟨F', ρ', σ, H⟩ ∧ Kp S0 ⟨F', ρ', σ, H⟩ ∧ HdOk K S0 ⟨F', ρ', σ, H⟩ v g ∧ (∀ v' h', HdOk K S0 ⟨F, ρ, σ, H⟩ v' h' → HdOk K S0 ⟨F', ρ', σ, H⟩ v' h') ∧ (∀ i, g ≠ .slot i) ∧ (g.isFr = true → g = h) := by
  cases h with
  | dat d => obtain ⟨rfl, rfl⟩ := pur_some e; exact ⟨F, R, k, q, fun _ _ z => z, fun i z => (by cases z), fun _ => rfl⟩
  | frL d => obtain ⟨rfl, rfl⟩ := pur_some e; exact ⟨F, R, k, q, fun _ _ z => z, fun i z => (by cases z), fun _ => rfl⟩
  | frD d => obtain ⟨rfl, rfl⟩ := pur_some e; exact ⟨F, R, k, q, fun _ _ z => z, fun i z => (by cases z), fun _ => rfl⟩
  | slot i =>
    obtain ⟨d, ρ1, ed, e⟩ := bnd_some e
    obtain ⟨rfl, rfl⟩ := pur_some e
    obtain ⟨F', R', k', r', sm, nd, no⟩ := frz_ok R k q ed
    exact ⟨F', R', k', r', fun v' h' q' => frz_keep q' sm nd no (fun z => by cases z), fun i z => (by cases z), fun z => by cases z⟩
def sPar3 (i j l : Nat) (fa : M (List Hd)) : M Out := bnd fa fun hs => match hs with
  | [x, y, z] => bnd (thaw x) fun x => bnd (thaw y) fun y => bnd (thaw z) fun z ρ => match stW l z ρ with
    | some ρ1 => match stW j y ρ1 with
      | some ρ2 => match stW i x ρ2 with
        | some ρ3 => some (.nx, ρ3)
        | none => none
      | none => none
    | none => none
  | _ => fun _ => none
section
variable {X : Cx} {a b c : Expr} {pos : Pos}
theorem s_par3 {i j l : Nat} {x y z : Str} {fa : M (List Hd)} {px py pz pt : Pos} {kt k2 pt2} (hc : X.calm = true) (hN : X.N.Nodup) (hi : X.N[i]? = some x) (hj : X.N[j]? = some y) (hl : X.N[l]? = some z) (hij : i ≠ j) (hil : i ≠ l) (hjl : j ≠ l)
    (hx : X.env.scope.names.lookup x = some .local) (hy : X.env.scope.names.lookup y = some .local) (hz : X.env.scope.names.lookup z = some .local) (ha : PA X [a, b, c] (tDA X.K fa))
    (hw : swappedStores [.Tuple [.Name x px, .Name y py, .Name z pz] kt pt] (.Tuple [a, b, c] k2 pt2) X.env = pure (some [x, y, z]))
    (hs : swapsWithSole [.Tuple [.Name x px, .Name y py, .Name z pz] kt pt] (.Tuple [a, b, c] k2 pt2) pos.line X.env = pure false := by rfl) :
    PS X (.Assign [.Tuple [.Name x px, .Name y py, .Name z pz] kt pt] (.Tuple [a, b, c] k2 pt2) pos) (tDS X.K (sPar3 i j l fa)) := by
  refine ps_weak (ps_par3 hc hN hi hj hl hij hil hjl hx hy hz ha hw hs) fun D σ H ⟨S, o, ρ', e1, e2, R, e, q⟩ => ?_
  subst e1; subst e2
  obtain ⟨hs, ρ1, ea, e⟩ := bnd_some e
  refine ⟨S, hs, ρ1, rfl, rfl, R, ea, fun vs ⟨F, ρ, σ, H⟩ es er RT kT hT => ?_⟩
  simp only at es er; subst er
  cases hT with
  | nil => cases e
  | cons h1 a1 r =>
    cases r with
    | nil => cases e
    | cons h2 a2 r =>
      cases r with
      | nil => cases e
      | cons h3 a3 r =>
        cases r with
        | cons _ _ _ => cases e
        | nil =>
          rename_i v1 x1 v2 x2 v3 x3
          obtain ⟨g1, ρ2, t1, e⟩ := bnd_some e
          obtain ⟨g2, ρ3, t2, e⟩ := bnd_some e
          obtain ⟨g3, ρ4, t3, e⟩ := bnd_some e
          obtain ⟨F1, R1, k1, q1, p1, n1, f1⟩ := thaw_all RT kT h1 t1
          obtain ⟨F2, R2, k2, q2, p2, n2, f2⟩ := thaw_all R1 k1 (p1 _ _ h2) t2
          obtain ⟨F3, R3, k3, q3, p3, n3, f3⟩ := thaw_all R2 k2 (p2 _ _ (p1 _ _ h3)) t3
          have c1 := p3 _ _ (p2 _ _ q1)
          have c2 := p3 _ _ q2
          cases e3 : stW l g3 ρ4 with
          | none => simp only [e3] at e; cases e
          | some ρ5 =>
            simp only [e3] at e
            cases e4 : stW j g2 ρ5 with
            | none => simp only [e4] at e; cases e
            | some ρ6 =>
              simp only [e4] at e
              cases e5 : stW i g1 ρ6 with
              | none => simp only [e5] at e; cases e
              | some ρ7 =>
                simp only [e5] at e; cases e
                have ap12 : g1.isFr = true → g2.isFr = true → v2 ≠ v1 := fun z1 z2 => by
                  rw [f1 z1] at z1
                  rw [f2 z2] at z2
                  exact a1 z1 0 v2 x2 rfl rfl z2
                have ap13 : g1.isFr = true → g3.isFr = true → v3 ≠ v1 := fun z1 z2 => by
                  rw [f1 z1] at z1
                  rw [f3 z2] at z2
                  exact a1 z1 1 v3 x3 rfl rfl z2
                have ap23 : g2.isFr = true → g3.isFr = true → v3 ≠ v2 := fun z1 z2 => by
                  rw [f2 z1] at z1
                  rw [f3 z2] at z2
                  exact a2 z1 0 v3 x3 rfl rfl z2
                obtain ⟨R4, k4, b1⟩ := stW_keep R3 k3 q3 c1 n3 n1 (fun z1 z2 => (ap13 z2 z1).symm) e3
                obtain ⟨_, _, b2⟩ := stW_keep R3 k3 q3 c2 n3 n2 (fun z1 z2 => (ap23 z2 z1).symm) e3
                obtain ⟨R5, k5, d1⟩ := stW_keep R4 k4 b2 b1 n2 n1 (fun z1 z2 => (ap12 z2 z1).symm) e4
                obtain ⟨F6, R6, k6, _⟩ := stW_ok R5 k5 d1 e5
                refine ⟨v1, v2, v3, rfl, ?_⟩
                have hq := q _ rfl R6 k6
                have comm : ((σ.set l (some v3)).set j (some v2)).set i (some v1) = ((σ.set i (some v1)).set j (some v2)).set l (some v3) := by
                  rw [List.set_comm _ _ (Ne.symm hjl), List.set_comm _ _ (Ne.symm hil), List.set_comm _ _ (Ne.symm hij)]
                have hq' : D.nx (((σ.set l (some v3)).set j (some v2)).set i (some v1)) H := hq
                rw [comm] at hq'
                rw [← es]
                exact hq'
end
end DL
set_option Elab.async false
set_option linter.all false
set_option maxRecDepth 100000
/-! DL: the law's end. -/
namespace DL
open PySem PySem.Spec PyProof.Rows L2
theorem law_callG {P : Program} {w : World} {K : PySem.W.Frag} {mg mb : Str → Option Value} {k : Nat} {fa a : Addr} {fd : FuncData} {x : Str} {sp : List V → Hp → VK → Prop} {s₁ : Shared} {vs : List Value} {ns : List Int}
    (KX : K.In s₁.heap) (hns : s₁.heap.Ns mainGlobals mg) (hb : s₁.heap.Ns builtinsNs mb) (hbb : ∀ x : Str, x ≠ "__name__" → mb x = bootBuiltins x) (hlim : s₁.heap.NoLimit) (hg : s₁.gens = #[])
    (ha : s₁.heap.get? a = some { cls := .type "list", data := .seq vs.toArray }) (hi : IntsAre vs ns) (hl : ns.length ≤ sizeLine) (hr : Room k callerA ∧ callerA.guards = some [])
    (F : ∀ base : Heap, K.In base → base.Ns mainGlobals mg → FnG P w K mg base k fa fd [x] sp) (hbind : ∀ (s : Shared) (u : Value), BindsTo s fd ⟨[u], []⟩ [(x, u)])
    (hsp : ∀ H : Hp, Only H → SqL K H a (ns.map V.int) → sp [.ref a] H fun v _ => v = .bl true) :
    codeAny (model P w) callerA (.call (.ref fa) ⟨[.ref a], []⟩) (fun r s' => r = .ok (.ret (.bool true)) ∧ OldK s₁.heap s'.heap ∧ s'.os = s₁.os ∧ AllBare s'.gens) s₁ := by
  have rv := vals_ints hi
  have lenV := hi.length
  -- from an abstract heap in which nothing but the script may be tracked
  have core : ∀ H : Hp, Only H → SqL K H a (ns.map V.int) → HOk P w H s₁.heap → (∀ b, H b ≠ none → b = a) → (H a ≠ none → K.lookup a = none) →
      codeAny (model P w) callerA (.call (.ref fa) ⟨[.ref a], []⟩) (fun r s' => r = .ok (.ret (.bool true)) ∧ OldK s₁.heap s'.heap ∧ s'.os = s₁.os ∧ AllBare s'.gens) s₁ := by
    intro H hO hS hok hA hK
    have base_of : ∀ {b : Addr} {o : Obj}, s₁.heap.get? b = some o → H b = none → (hidT s₁.heap H).get? b = some o := fun e n => hidT_get e n
    have noA : ∀ {b : Addr} {o : Obj} {es : Array DictEntry} {ep : Nat}, s₁.heap.get? b = some o → o.data = .dict es ep → H b = none := fun {b o es ep} e d => by
      cases q : H b with
      | none => rfl
      | some u =>
        have e' : b = a := hA b (by rw [q]; simp)
        subst e'
        rw [ha] at e; cases e
        have d' : Data.seq vs.toArray _ = Data.dict es ep := d
        cases d'
    have nsK : ∀ {b : Addr} {m : Str → Option Value}, s₁.heap.Ns b m → (hidT s₁.heap H).Ns b m := fun {b m} ⟨o, es, ep, e, d, r⟩ => ⟨o, es, ep, base_of e (noA e d), d, r⟩
    have hKb : K.In (hidT s₁.heap H) := fun b o e => base_of (KX b o e) (by
      cases q : H b with
      | none => rfl
      | some u =>
        have e' : b = a := hA b (by rw [q]; simp)
        subst e'
        rw [hK (by rw [q]; simp)] at e; cases e)
    have hM : Mod K mg (hidT s₁.heap H) := ⟨hKb, nsK hns, ⟨mb, nsK hb, hbb⟩, let ⟨mc, h1, h2⟩ := hlim; ⟨mc, nsK h1, h2⟩⟩
    have e0 : Env0 P w K mg (hidT s₁.heap H) callerA [] s₁ H := ⟨rfl, hM, fun b o e => of_hidT e, Nat.le_of_eq (hidT_size _ _), trivial, fun b hb => absurd (show b ∈ ([] : List Addr) from hb) (by simp), hok, .of_eq hg⟩
    refine codeAny_mono ((F _ hKb (nsK hns)).run callerA [] s₁ H ⟨[.ref a], []⟩ [.ref a] [.ref a] _ hr e0 (hbind s₁ (.ref a)) (.cons rfl .nil) (hsp H hO hS)) fun r s' h => ?_
    cases r with
    | error e => exact False.elim h
    | ok fl =>
      cases fl with
      | next => exact False.elim h
      | brk => exact False.elim h
      | cont => exact False.elim h
      | ret u =>
        obtain ⟨v, H', os, bare, un, hok', r', q⟩ := h
        have q' : v = .bl true := q
        subst q'
        obtain rfl : u = Value.bool true := r'
        refine ⟨rfl, OldK.of_keep fun b o e => ?_, os, bare⟩
        cases q : H b with
        | none => exact un.keep b o e q (by intro z; exact absurd (show b ∈ ([] : List Addr) from z) (by simp)) (by simp)
        | some u =>
          rcases hO b with z | ⟨ob, xs, z⟩
          · rw [q] at z; cases z
          · have z2 := un.frzs b ob _ z
            obtain ⟨e1, _⟩ := hok b _ z
            obtain ⟨e2, _⟩ := hok' b _ z2
            rw [e] at e1; cases e1
            exact e2
  cases hk : K.lookup a with
  | some o =>
    -- the script is one of the module's own objects
    have e := KX a o hk
    rw [ha] at e
    cases e
    refine core (fun _ => none) (fun _ => .inl rfl) (.inr ⟨_, vs.toArray, _, hk, rfl, rfl, rfl, by rw [List.size_toArray, lenV]; exact hl, by simpa using rv⟩) (fun b u z => by have z' : (none : Option HO) = some u := z; cases z') (fun b z => absurd rfl z) fun z => absurd rfl z
  | none =>
    refine core (fun b => if b = a then some (.frz { cls := .type "list", data := .seq vs.toArray } (.lst (ns.map V.int))) else none) (fun b => ?_) (.inl (.inr ⟨{ cls := .type "list", data := .seq vs.toArray }, if_pos rfl⟩)) (fun b u z => ?_) (fun b z => ?_) fun _ => hk
    · by_cases hb : b = a
      · exact .inr ⟨_, _, if_pos hb⟩
      · exact .inl (if_neg hb)
    · by_cases hb : b = a
      · have z' := (if_pos hb).symm.trans z
        cases z'
        subst hb
        exact ⟨ha, by rw [List.length_map]; exact hl, vs, _, rv, ha⟩
      · have z' := (if_neg hb).symm.trans z
        cases z'
    · by_cases hb : b = a
      · exact hb
      · exact absurd (if_neg hb) z
theorem walkG {l : PySem.W.OpenLaw} {n k : Nat} {q : Program} {loose : List Str} {XP : (Str → Option Value) → Heap → Prop} {YP : World → Heap → Prop} {d : DefRec} {K : Params → PySem.W.Frag} {sp : World → List V → Hp → VK → Prop} {x : Str}
    (hn : l.most = some n) (hn2 : n ≤ sizeLine) (hdf : d.params.defaults = []) (hr : Room k callerA ∧ callerA.guards = some [])
    (hY : ∀ (w : World) (h : Heap), YP w h → (K w.params).In h)
    (F : ∀ (w : World) (mg : Str → Option Value) (fa : Addr) (h : Heap), (K w.params).In h → h.Ns mainGlobals mg → mg d.name = some (.ref fa) →
      ∃ fd : FuncData, (∀ (s : Shared) (u : Value), BindsTo s fd ⟨[u], []⟩ [(x, u)]) ∧
        ∀ base : Heap, (K w.params).In base → base.Ns mainGlobals mg → FnG l.prog w (K w.params) mg base k fa fd [x] (sp w))
    (hsp : ∀ (w : World) (H : Hp) (a : Addr) (ns : List Int), ns.length ≤ n → Only H → SqL (K w.params) H a (ns.map V.int) → sp w [.ref a] H fun v _ => v = .bl true) :
    PySem.W.WalkO q loose XP YP l.row.toRowW d [] (fun f vs => PySem.call f vs) := by
  refine Att.attach_call hn hdf fun w s₀ s₁ mg mb fa o pm cd doc a vs ns G Y ho hd hcd hmg hobj hints hlen hg => ?_
  have KX := hY w _ Y
  obtain ⟨fd, hb, hF⟩ := F w mg fa _ KX G.T.g hmg
  exact law_callG KX G.T.g G.T.b G.T.builtins G.T.nolimit hg hobj hints (Nat.le_trans hlen hn2) hr hF hb (fun H hO hS => hsp w H a ns hlen hO hS)
end DL
set_option Elab.async false
set_option linter.all false
set_option maxRecDepth 100000
/-! DL: defs put together. -/
namespace DL
open PySem PySem.Spec PyProof.Rows L2
/-- a def of the text as it stands behind the top -/
def DefAt (K : PySem.W.Frag) (mg : Str → Option Value) (x : Str) (ps : List Str) (st : Stmt) : Prop := ∃ f fd, mg x = some (.ref f) ∧ Fun K x x st f fd ∧ Binds K fd ps []
/-- a def that keeps a promise -/
def Sub (P : Program) (w : World) (K : PySem.W.Frag) (mg : Str → Option Value) (base : Heap) (k : Nat) (x : Str) (ps : List Str) (sp : List V → Hp → VK → Prop) : Prop :=
  ∃ f fd, FnG P w K mg base k f fd ps sp ∧ mg x = some (.ref f) ∧ PySem.W.keepIn K (.ref f) = true ∧ Binds K fd ps []
section
variable {P : Program} {w : World} {K : PySem.W.Frag} {mg : Str → Option Value} {base : Heap} {k n : Nat} {x : Str} {st : Stmt} {N ps : List Str} {b : M Out}
abbrev cxD (P : Program) (w : World) (K : PySem.W.Frag) (mg : Str → Option Value) (base : Heap) (N : List Str) (x : Str) (st : Stmt) (f : Addr) (cdv : Value) (A : Around) (outer : List Env) (s : Shared) (H : Hp) : Cx := (cxOf CX0 P w K mg base N x (defScope st) f cdv A outer s H E0).nox
/-- a def's body walks as b says -/
def Bod (P : Program) (w : World) (K : PySem.W.Frag) (mg : Str → Option Value) (base : Heap) (k : Nat) (N : List Str) (x : Str) (st : Stmt) (b : M Out) : Prop :=
  ∀ (f : Addr) (cdv : Value) (A : Around) (outer : List Env) (s : Shared) (H : Hp), Room k (cxD P w K mg base N x st f cdv A outer s H).A ∧ (cxD P w K mg base N x st f cdv A outer s H).A.guards = some [] → PSs (cxD P w K mg base N x st f cdv A outer s H) (defBody st) (tDS K b)
theorem subD (D : DefAt K mg x ps st) (S : FnScope N ps (defScope st)) (body : Bod P w K mg base k N x st b) : Sub P w K mg base (k + 1) x ps (spD K ps.length (runD N.length b)) := by
  obtain ⟨f, fd, h1, h2, h3⟩ := D
  exact ⟨f, fd, fnD h2 S fun cdv A outer s H hr => body f cdv A outer s H hr, h1, h2.kp, h3⟩
theorem subB (D : DefAt K mg x ps st) (S : FnScope N ps (defScope st)) (hn : n + 1 = ps.length) (body : Bod P w K mg base k N x st b) : Sub P w K mg base (k + 1) x ps (spB K n (runB N.length b)) := by
  obtain ⟨f, fd, h1, h2, h3⟩ := D
  exact ⟨f, fd, fnB h2 S hn fun cdv A outer s H hr => body f cdv A outer s H hr, h1, h2.kp, h3⟩
theorem subS {p : Str} (D : DefAt K mg x [p] st) (S : FnScope N [p] (defScope st)) (body : Bod P w K mg base k N x st b) : Sub P w K mg base (k + 1) x [p] (spS K (runS N.length b)) := by
  obtain ⟨f, fd, h1, h2, h3⟩ := D
  exact ⟨f, fd, fnS h2 S fun cdv A outer s H hr => body f cdv A outer s H hr, h1, h2.kp, h3⟩
end
section
variable {X : Cx} {j k n : Nat} {x : Str} {ps : List Str} {p pos : Pos} {e a b : Expr} {es : List Expr}
theorem d_sub {g : List PD → Option Hd} {fa : M (List Hd)} (h : Sub X.prog X.w X.K X.mg X.base j x ps (spD X.K n g)) (hj : j ≤ k) (hr : Room k X.A ∧ X.A.guards = some []) (hg : Gl X x) (ha : PA X (e :: es) (tDA X.K fa)) (hdb : (x == ("__debug__" : Str)) = false := by decide)
    (he : starEach (e :: es) X.env = (false, eval e X.env) :: starEach es X.env := by rfl) (hpl : (backTo pos (starEach es X.env)).any (·.1) = false := by rfl) : PE X (.Call (.Name x p) (e :: es) [] pos) (tDE X.K (eCall n g fa)) := by
  obtain ⟨f, fd, h1, h2, h3, h4⟩ := h
  exact d_call (h1.mono hj) hr hg h2 h3 h4 ha hdb he hpl
theorem d_subB {g : List PD → List PD → Option (Hd × List PD)} {i : Nat} {fa : M (List Hd)} (h : Sub X.prog X.w X.K X.mg X.base j x ps (spB X.K n g)) (hj : j ≤ k) (hr : Room k X.A ∧ X.A.guards = some []) (hg : Gl X x) (hv : PE X e (tVar i)) (ha : PA X es (tDA X.K fa)) (hdb : (x == ("__debug__" : Str)) = false := by decide)
    (he : starEach (e :: es) X.env = (false, eval e X.env) :: starEach es X.env := by rfl) (hpl : (backTo pos (starEach es X.env)).any (·.1) = false := by rfl) : PE X (.Call (.Name x p) (e :: es) [] pos) (tDE X.K (eCallB n g i fa)) := by
  obtain ⟨f, fd, h1, h2, h3, h4⟩ := h
  exact d_callM (h1.mono hj) hr hg h2 h3 h4 hv ha hdb he hpl
theorem d_subS {g : List Int → Option Hd} {i : Nat} (h : Sub X.prog X.w X.K X.mg X.base j x ps (spS X.K g)) (hj : j ≤ k) (hr : Room k X.A ∧ X.A.guards = some []) (hg : Gl X x) (hv : PE X e (tVar i)) (hdb : (x == ("__debug__" : Str)) = false := by decide)
    (he : starEach [e] X.env = (false, eval e X.env) :: starEach [] X.env := by rfl) (hpl : (backTo pos (starEach [] X.env)).any (·.1) = false := by rfl) : PE X (.Call (.Name x p) [e] [] pos) (tDE X.K (eCallS g i)) := by
  obtain ⟨f, fd, h1, h2, h3, h4⟩ := h
  exact d_callS (h1.mono hj) hr hg h2 h3 h4 hv hdb he hpl
/-- a comparison as a test -/
theorem t_cmp {op : CmpOp} {fa fb : M Hd} {g : List PD → Option Hd} (ho : OpR X (compareOp op) (GR2 X.K g)) (ha : PE X a (tDE X.K fa)) (hb : PE X b (tDE X.K fb)) (hm : behindInMarks op b = false) : PT X (.Compare a [op] [b] pos) (tDT X.K (eTst (e2 g fa fb))) :=
  pt_weak (pt_cmpR ho ha hb hm) fun _ _ _ h => two_red (op_red (tst_red h))
theorem d_gintE {i : Int} (hg : Gl X x) (hm : ∃ t, X.mg x = some (.int i t)) (hd : (x == ("__debug__" : Str)) = false := by decide) : PE X (.Name x pos) (tDE X.K (eC (.int i))) := by
  obtain ⟨t, hm⟩ := hm
  exact d_gint hg hm hd
end
/-- the law's end: its value is True -/
theorem sp_law {K : PySem.W.Frag} {H : Hp} {a : Addr} {ns : List Int} {g : List Int → Option Hd} (hS : SqL K H a (ns.map V.int)) (hg : g ns = some (.dat (.bool true))) : spS K g [.ref a] H fun v _ => v = .bl true :=
  ⟨H, a, ns, _, rfl, Same.refl H, hS, hg, fun v F' H' _ q => by
    have q' : Rp K F' v (.bool true) := q
    cases q'; rfl⟩
end DL
set_option Elab.async false
set_option linter.all false
set_option maxRecDepth 100000
/-! DL: chains of comparisons of any length. -/
namespace DL
open PySem PySem.Spec PyProof.Rows L2
def tCh (K : PySem.W.Frag) (fk : Hd → M Bool) (x : V) (σ : St) (H : Hp) (Q : Bool → Hp → Prop) : Prop := ∃ (S0 S : Sx) (hx : Hd) (b : Bool) (ρ' : En), S.σ = σ ∧ S.H = H ∧ Rel K S ∧ HdOk K S0 S x hx ∧ fk hx S.ρ = some (b, ρ') ∧
  ∀ T : Sx, T.σ = σ → T.ρ = ρ' → Rel K T → Kp S T → Q b T.H
structure PCh (X : Cx) (ops : List CmpOp) (es : List Expr) (fk : Hd → M Bool) : Prop where
  val : ∀ (pos : Pos) (pins : List (Addr × Obj)) (s : Shared) (σ : St) (H : Hp) (x : V) (v : Value) (Q : Bool → Hp → Prop), Inv X pins σ H s → RelV x v → tCh X.K fk x σ H Q →
    wpAny (model X.prog X.w) X.A (compareChain pos v ops (evalEach es X.env)) (EP X pins σ fun y H1 => ∃ b, y = .bl b ∧ Q b H1) X.xe s
  tst : ∀ (pos : Pos) (pins : List (Addr × Obj)) (s : Shared) (σ : St) (H : Hp) (x : V) (v : Value) (Q : Bool → Hp → Prop), Inv X pins σ H s → RelV x v → tCh X.K fk x σ H Q →
    wpAny (model X.prog X.w) X.A (testChain pos v ops (evalEach es X.env)) (TP X pins σ Q) X.xe s
def eLast (g : List PD → Option Hd) (fb : M Hd) : Hd → M Bool := fun hx => bnd fb fun y ρ => match resA ρ [hx, y] with
  | some ds => match g ds with
    | some (.dat (.bool c)) => some (c, ρ)
    | _ => none
  | none => none
def eLink (g : List PD → Option Hd) (fb : M Hd) (k : Hd → M Bool) : Hd → M Bool := fun hx => bnd fb fun y ρ => match resA ρ [hx, y] with
  | some ds => match g ds with
    | some (.dat (.bool c)) => if c = true then k y ρ else some (false, ρ)
    | _ => none
  | none => none
section
variable {X : Cx} {op op' : CmpOp} {ops : List CmpOp} {a b b' : Expr} {es : List Expr} {pos : Pos}
theorem ch_step {K : PySem.W.Frag} {g : List PD → Option Hd} {fb : M Hd} {fk : Hd → M Bool} {x : V} {σ : St} {H : Hp} {Q : Bool → Hp → Prop} {R : Hd → Bool → En → Option (Bool × En)}
    (hR : ∀ hx, fk hx = bnd fb fun y ρ => match resA ρ [hx, y] with
      | some ds => match g ds with
        | some (.dat (.bool c)) => R y c ρ
        | _ => none
      | none => none) (h : tCh K fk x σ H Q) :
    tDE K fb σ H fun y H1 => GOp K g [x, y] H1 fun z H2 => ∃ (c : Bool) (S0 S : Sx) (hy : Hd) (b : Bool) (ρ' : En), z = .bl c ∧ S.σ = σ ∧ S.H = H2 ∧ Rel K S ∧ HdOk K S0 S y hy ∧ R hy c S.ρ = some (b, ρ') ∧
      ∀ T : Sx, T.σ = σ → T.ρ = ρ' → Rel K T → Kp S T → Q b T.H := by
  obtain ⟨S0, S, hx, b0, ρ', e1, e2, RS, hS, e, q⟩ := h
  subst e1; subst e2
  rw [hR hx] at e
  obtain ⟨y, ρ1, eb, e⟩ := bnd_some e
  refine ⟨S, y, ρ1, rfl, rfl, RS, eb, fun u U us ur RU kU hU => ?_⟩
  subst ur
  have hx' : HdOk K S0 U x hx := hS.step kU us
  cases e3 : resA U.ρ [hx, y] with
  | none => simp only [e3] at e; cases e
  | some ds =>
    simp only [e3] at e
    cases e4 : g ds with
    | none => simp only [e4] at e; cases e
    | some w =>
      have hAB : RtA K U.F U.H [x, u] ds := by
        obtain ⟨d1, r1, z1, z2, rfl⟩ := resA_cons e3
        obtain ⟨d2, r2, z3, z4, rfl⟩ := resA_cons z2
        cases z4
        exact .cons (hx'.rt RU z1) (.cons (hU.rt RU z3) .nil)
      refine ⟨U.F, ds, w, RU.fh, hAB, e4, fun p F' H' gr gv => ?_⟩
      cases w with
      | slot i => exact gv.elim
      | frL i => simp only [e4] at e; cases e
      | frD i => simp only [e4] at e; cases e
      | dat d =>
        cases d <;> simp only [e4] at e <;> try cases e
        next c =>
        have gv' : Rp K F' p (.bool c) := gv
        cases gv'
        exact ⟨c, S, ⟨F', U.ρ, U.σ, H'⟩, y, b0, ρ', rfl, us, rfl, RU.grow gr, hU.step (Kp.grow gr) rfl, e, fun T t1 t2 t3 t4 => q T t1 t2 t3 (kU.trans ((Kp.grow gr).trans t4))⟩
theorem ch_last {fb : M Hd} {g : List PD → Option Hd} (ho : OpR X (compareOp op) (GR2 X.K g)) (hb : PE X b (tDE X.K fb)) : PCh X [op] [b] (eLast g fb) := by
  refine ⟨fun pos pins s σ H x v Q I rx h => ?_, fun pos pins s σ H x v Q I rx h => ?_⟩
  · have h' := ch_step (R := fun y c ρ => some (c, ρ)) (fun hx => rfl) h
    refine chain_last (thn (hb.run pins s σ H _ I h') fun u s2 ⟨y, H2, I2, r2, q2⟩ => wpAny_mono (ho pins s2 σ H2 x y v u _ I2 rx r2 q2) (fun d s3 ⟨z, H3, I3, r3, c, S0, S, hy, b0, ρ', z1, z2, z3, z4, z5, z6, z7⟩ => ?_) fun _ _ x => x)
    cases z6
    subst z3
    exact ⟨z, _, I3, r3, c, z1, z7 S z2 rfl z4 (Kp.refl S)⟩
  · have h' := ch_step (R := fun y c ρ => some (c, ρ)) (fun hx => rfl) h
    refine test_last (thn (hb.run pins s σ H _ I h') fun u s2 ⟨y, H2, I2, r2, q2⟩ => wpAny_mono (ho pins s2 σ H2 x y v u _ I2 rx r2 q2) (fun d s3 ⟨z, H3, I3, r3, c, S0, S, hy, b0, ρ', z1, z2, z3, z4, z5, z6, z7⟩ => ?_) fun _ _ x => x)
    cases z6
    subst z3; subst z1
    cases r3
    exact wpAny_truthy_bool ⟨_, I3, z7 S z2 rfl z4 (Kp.refl S)⟩
theorem ch_link {fb : M Hd} {g : List PD → Option Hd} {k : Hd → M Bool} (ho : OpR X (compareOp op) (GR2 X.K g)) (hb : PE X b (tDE X.K fb)) (hk : PCh X (op' :: ops) (b' :: es) k) : PCh X (op :: op' :: ops) (b :: b' :: es) (eLink g fb k) := by
  refine ⟨fun pos pins s σ H x v Q I rx h => ?_, fun pos pins s σ H x v Q I rx h => ?_⟩
  · have h' := ch_step (R := fun y c ρ => if c = true then k y ρ else some (false, ρ)) (fun hx => rfl) h
    refine chain_link (thn (hb.run pins s σ H _ I h') fun u s2 ⟨y, H2, I2, r2, q2⟩ => wpAny_mono (ho pins s2 σ H2 x y v u _ I2 rx r2 q2) (fun d s3 ⟨z, H3, I3, r3, c, S0, S, hy, b0, ρ', z1, z2, z3, z4, z5, z6, z7⟩ => ?_) fun _ _ x => x)
    subst z3; subst z1
    cases r3
    refine wpAny_truthy_bool ?_
    cases c with
    | false =>
      simp only [Bool.false_eq_true, if_false] at z6
      cases z6
      exact ite_ff ⟨.bl false, _, I3, rfl, false, rfl, z7 S z2 rfl z4 (Kp.refl S)⟩
    | true =>
      simp only [if_true] at z6
      exact ite_tt (hk.val pos pins s3 σ _ y u Q I3 r2 ⟨S0, S, hy, b0, ρ', z2, rfl, z4, z5, z6, z7⟩)
  · have h' := ch_step (R := fun y c ρ => if c = true then k y ρ else some (false, ρ)) (fun hx => rfl) h
    refine test_link (thn (hb.run pins s σ H _ I h') fun u s2 ⟨y, H2, I2, r2, q2⟩ => wpAny_mono (ho pins s2 σ H2 x y v u _ I2 rx r2 q2) (fun d s3 ⟨z, H3, I3, r3, c, S0, S, hy, b0, ρ', z1, z2, z3, z4, z5, z6, z7⟩ => ?_) fun _ _ x => x)
    subst z3; subst z1
    cases r3
    refine wpAny_truthy_bool ?_
    cases c with
    | false =>
      simp only [Bool.false_eq_true, if_false] at z6
      cases z6
      exact ite_ff ⟨_, I3, z7 S z2 rfl z4 (Kp.refl S)⟩
    | true =>
      simp only [if_true] at z6
      exact ite_tt (hk.tst pos pins s3 σ _ y u Q I3 r2 ⟨S0, S, hy, b0, ρ', z2, rfl, z4, z5, z6, z7⟩)
theorem ch_in {K : PySem.W.Frag} {fa : M Hd} {k : Hd → M Bool} {S : Sx} {b0 : Bool} {ρ' : En} {Q : Bool → Hp → Prop} (R : Rel K S) (e : bnd fa k S.ρ = some (b0, ρ')) (q : ∀ T : Sx, T.σ = S.σ → T.ρ = ρ' → Rel K T → Kp S T → Q b0 T.H) :
    tDE K fa S.σ S.H fun x H1 => tCh K k x S.σ H1 Q := by
  obtain ⟨hx, ρ1, ea, e⟩ := bnd_some e
  exact ⟨S, hx, ρ1, rfl, rfl, R, ea, fun v T t1 t2 t3 t4 t5 => ⟨S, T, hx, b0, ρ', t1, rfl, t3, t5, by rw [t2]; exact e, fun U u1 u2 u3 u4 => q U u1 u2 u3 (t4.trans u4)⟩⟩
def eChn (fa : M Hd) (k : Hd → M Bool) : M Hd := bnd (bnd fa k) fun c => pur (.dat (.bool c))
theorem d_chn {fa : M Hd} {k : Hd → M Bool} (ha : PE X a (tDE X.K fa)) (hk : PCh X (op :: op' :: ops) (b :: b' :: es) k) (hm : lastMarks (op :: op' :: ops) (b :: b' :: es) = false := by with_unfolding_all rfl) :
    PE X (.Compare a (op :: op' :: ops) (b :: b' :: es) pos) (tDE X.K (eChn fa k)) := by
  refine ⟨fun pins s σ H Q I ⟨S, h, ρ', e1, e2, R, e, q⟩ => ?_⟩
  subst e1; subst e2
  obtain ⟨c, ρ1, ea, e⟩ := bnd_some e
  obtain ⟨rfl, rfl⟩ := pur_some e
  refine Compare_chain (thn (ha.run pins s _ _ _ I (ch_in (Q := fun b0 H1 => Q (.bl b0) H1) R ea fun T t1 t2 t3 t4 => q _ T t1 t2 t3 t4 (.bl c))) fun v s1 ⟨x, H1, I1, r1, q1⟩ => wpAny_mono (hk.val pos pins s1 _ H1 x v _ I1 r1 q1) (fun u s2 ⟨y, H2, I2, r2, b0, eb, q2⟩ => ?_) fun _ _ x => x) hm
  subst eb
  exact ⟨.bl b0, H2, I2, r2, q2⟩
theorem t_chn {fa : M Hd} {k : Hd → M Bool} (ha : PE X a (tDE X.K fa)) (hk : PCh X (op :: op' :: ops) (b :: b' :: es) k) (hm : lastMarks (op :: op' :: ops) (b :: b' :: es) = false := by with_unfolding_all rfl) :
    PT X (.Compare a (op :: op' :: ops) (b :: b' :: es) pos) (tDT X.K (bnd fa k)) := by
  refine ⟨fun pins s σ H Q I ⟨S, b0, ρ', e1, e2, R, e, q⟩ => ?_⟩
  subst e1; subst e2
  exact isTrue_chain (thn (ha.run pins s _ _ _ I (ch_in (Q := Q) R e fun T t1 t2 t3 t4 => q T t1 t2 t3 t4)) fun v s1 ⟨x, H1, I1, r1, q1⟩ => hk.tst pos pins s1 _ H1 x v _ I1 r1 q1) hm
end
end DL
set_option Elab.async false
set_option linter.all false
set_option maxRecDepth 100000
namespace K07
open PySem PySem.Spec PyProof.Rows L2 DL
/-! _law_hand 0:script 1:cells 2:cell -/
@[reducible] noncomputable def B__law_hand_1 : M Hd :=
  (eOp gAbs (eCons (eOp gInt (eCons (eVar 2) eNil)) eNil))
@[reducible] noncomputable def B__law_hand : M Out :=
  (sSeq (sSet 1 (eComp [2] (eScr 0 61) (gN 2) (pur true) B__law_hand_1))
    (sRet (eLst (eCons (eVar 1) (eCons (eC (.int 0)) (eCons (eC (.int 0)) (eCons (e2 gAdd (eC (.int 90445)) (e2 gMul (eC (.int 17)) (eOp gLen (eCons (eVar 1) eNil)))) (eCons (eC (.int 0)) eNil))))))))
noncomputable def V__law_hand : List Int → Option Hd := runS 3 B__law_hand
/-! _law_draw 0:hand 1:many 2:cell 3:digit 4:number -/
@[reducible] noncomputable def B__law_draw : M Out :=
  (sSeq (sIf (tAndD (eTst (e2 gEq (e2 gIx (eVar 0) (eC (.int 2))) (eC (.int 0)))) (eTst (e2 gLt (e2 gIx (eVar 0) (eC (.int 1))) (eOp gLen (eCons (e2 gIx (eVar 0) (eC (.int 0))) eNil))))) (sSeq (sSet 2 (e2 gIx (e2 gIx (eVar 0) (eC (.int 0))) (e2 gIx (eVar 0) (eC (.int 1)))))
    (sSeq (sSetIx 0 (eC (.int 1)) (e2 gAdd (e2 gIx (eVar 0) (eC (.int 1))) (eC (.int 1))))
    (sSeq (sSetIx 0 (eC (.int 3)) (e2 gMod (eOp gInt (eCons (e2 gAdd (e2 gAdd (e2 gMul (e2 gIx (eVar 0) (eC (.int 3))) (eC (.int 69621))) (e2 gMul (eVar 2) (eC (.int 40692)))) (eC (.int 73))) eNil)) (eC (.int 2147483629))))
    (sIf (eTst (e2 gGe (eVar 2) (e2 gPow (eC (.int 10)) (eC (.int 18))))) (sSetIx 0 (eC (.int 2)) (eVar 2)) sNx)))) sNx)
    (sSeq (sIf (eTst (e2 gGt (e2 gIx (eVar 0) (eC (.int 2))) (eC (.int 0)))) (sSeq (sSet 3 (e2 gMod (eOp gInt (eCons (e2 gIx (eVar 0) (eC (.int 2))) eNil)) (eVar 1)))
    (sSeq (sSetIx 0 (eC (.int 2)) (e2 gDiv (e2 gIx (eVar 0) (eC (.int 2))) (eVar 1)))
    (sRet (eVar 3)))) sNx)
    (sSeq (sSetIx 0 (eC (.int 4)) (e2 gAdd (e2 gIx (eVar 0) (eC (.int 4))) (eC (.int 1))))
    (sSeq (sSet 4 (e2 gMod (eOp gInt (eCons (e2 gMul (eOp gInt (eCons (e2 gAdd (e2 gIx (eVar 0) (eC (.int 3))) (e2 gMul (eC (.int 7919)) (e2 gIx (eVar 0) (eC (.int 4))))) eNil)) (eC (.int 48271))) eNil)) (eC (.int 2147483647))))
    (sSeq (sSet 4 (e2 gMod (eOp gInt (eCons (e2 gMul (eVar 4) (e2 gAdd (e2 gDiv (eVar 4) (eC (.int 1009))) (eC (.int 69621)))) eNil)) (eC (.int 2147483647))))
    (sSeq (sSet 4 (e2 gMod (eOp gInt (eCons (e2 gMul (eVar 4) (e2 gAdd (e2 gDiv (eVar 4) (eC (.int 2003))) (eC (.int 40014)))) eNil)) (eC (.int 2147483563))))
    (sRet (e2 gMod (eOp gInt (eCons (e2 gDiv (eVar 4) (eC (.int 16))) eNil)) (eVar 1)))))))))
noncomputable def V__law_draw : List PD → List PD → Option (Hd × List PD) := runB 5 B__law_draw
/-! _law_any 0:hand 1:some -/
@[reducible] noncomputable def B__law_any : M Out :=
  (sRet (e2 gIx (eVar 1) (eCallB 1 V__law_draw 0 (eCons (eOp gLen (eCons (eVar 1) eNil)) eNil))))
noncomputable def V__law_any : List PD → List PD → Option (Hd × List PD) := runB 2 B__law_any
/-! _law_notes 0:hand 1:near 2:great 3:found 4:note -/
@[reducible] noncomputable def B__law_notes_1 : M Hd :=
  (eTup (eCons (eCallB 1 V__law_draw 0 (eCons (eVar 1) eNil)) (eCons (e2 gAdd (eC (.int 1)) (eCallB 1 V__law_draw 0 (eCons (eVar 2) eNil))) eNil)))
@[reducible] noncomputable def B__law_notes : M Out :=
  (sSeq (sAsg (eTup (eCons (eCallB 1 V__law_any 0 (eCons (eLst (eCons (eC (.int 20)) (eCons (eC (.int 200)) (eCons (eC (.int 1001)) eNil)))) eNil)) (eCons (eCallB 1 V__law_any 0 (eCons (eLst (eCons (eC (.int 2)) (eCons (eC (.int 10)) (eCons (eC (.int 50)) eNil)))) eNil)) eNil))) (gT 2 (gsC (gN 1) (gsC (gN 2) gsN))))
    (sSeq (sSet 3 (eComp [4] (eRng1 (eCallB 1 V__law_any 0 (eCons (eLst (eCons (eC (.int 30)) (eCons (eC (.int 30)) (eCons (eC (.int 15)) (eCons (eC (.int 1)) eNil))))) eNil))) (gN 4) (pur true) B__law_notes_1))
    (sRet (eIf (eTst (e2 gGt (eCallB 1 V__law_draw 0 (eCons (eC (.int 3)) eNil)) (eC (.int 0)))) (eOp gTuple (eCons (eOp gSrt (eCons (eVar 3) eNil)) eNil)) (eOp gTuple (eCons (eVar 3) eNil))))))
noncomputable def V__law_notes : List PD → List PD → Option (Hd × List PD) := runB 5 B__law_notes
/-! _law_ahead 0:notes 1:found 2:wish 3:height -/
@[reducible] noncomputable def B__law_ahead_1 : M Out :=
  (sExpr (eMut uAppend 1 (eCons (e2 gAdd (e2 gIx (eVar 1) (e1 gNeg (eC (.int 1)))) (eVar 3)) eNil)))
@[reducible] noncomputable def B__law_ahead : M Out :=
  (sSeq (sSet 1 (eLst (eCons (eC (.int 0)) eNil)))
    (sSeq (sFor (eIt (eVar 0)) (gT 2 (gsC (gN 2) (gsC (gN 3) gsN))) B__law_ahead_1)
    (sRet (eVar 1))))
noncomputable def V__law_ahead : List PD → Option Hd := runD 4 B__law_ahead
/-! _law_over 0:notes 1:ahead 2:first 3:last -/
@[reducible] noncomputable def B__law_over : M Out :=
  (sRet (e2 gSub (e2 gSub (e2 gAdd (e2 gIx (e2 gIx (eVar 0) (eVar 2)) (eC (.int 0))) (e2 gIx (eVar 1) (eVar 3))) (e2 gIx (eVar 1) (eVar 2))) (e2 gIx (e2 gIx (eVar 0) (eVar 3)) (eC (.int 0)))))
noncomputable def V__law_over : List PD → Option Hd := runD 4 B__law_over
/-! _law_least 0:notes 1:ahead 2:found 3:last 4:first -/
@[reducible] noncomputable def B__law_least_1 : M Hd :=
  (e2 gSub (e2 gIx (eVar 1) (eVar 3)) (e2 gIx (e2 gIx (eVar 0) (eVar 3)) (eC (.int 0))))
@[reducible] noncomputable def B__law_least_2 : M Hd :=
  (e2 gDiv (e2 gAdd (eCall 4 V__law_over (eCons (eVar 0) (eCons (eVar 1) (eCons (eVar 4) (eCons (eVar 3) eNil))))) (eC (.int 1))) (eC (.int 2)))
@[reducible] noncomputable def B__law_least_3 : M Out :=
  (sExpr (eMut uExtend 2 (eCons (eComp [4] (eRng1 (eVar 3)) (gN 4) (pur true) B__law_least_2) eNil)))
@[reducible] noncomputable def B__law_least : M Out :=
  (sSeq (sSet 1 (eCall 1 V__law_ahead (eCons (eVar 0) eNil)))
    (sSeq (sSet 2 (e2 gAdd (eLst (eCons (eC (.int 0)) eNil)) (eComp [3] (eRng1 (eOp gLen (eCons (eVar 0) eNil))) (gN 3) (pur true) B__law_least_1)))
    (sSeq (sFor (eRng1 (eOp gLen (eCons (eVar 0) eNil))) (gN 3) B__law_least_3)
    (sRet (eOp gMax (eCons (eVar 2) eNil))))))
noncomputable def V__law_least : List PD → Option Hd := runD 5 B__law_least
/-! _law_is 0:told 1:due -/
@[reducible] noncomputable def B__law_is : M Out :=
  (sRet (e2 gEq (eOp gRepr (eCons (eVar 0) eNil)) (eOp gRepr (eCons (eVar 1) eNil))))
noncomputable def V__law_is : List PD → Option Hd := runD 2 B__law_is
/-! _law_off 0:notes 1:some 2:spot 3:note -/
@[reducible] noncomputable def B__law_off_1 : M Hd :=
  (eOp gAbs (eCons (e2 gSub (eVar 2) (e2 gIx (eVar 3) (eC (.int 0)))) eNil))
@[reducible] noncomputable def B__law_off : M Out :=
  (sRet (eOp gMax (eCons (eComp [2, 3] (eZip2 (eCons (eVar 1) (eCons (eVar 0) eNil))) (gT 2 (gsC (gN 2) (gsC (gN 3) gsN))) (pur true) B__law_off_1) eNil)))
noncomputable def V__law_off : List PD → Option Hd := runD 4 B__law_off
/-! is_tuple_of 0:thing 1:size -/
@[reducible] noncomputable def B_is_tuple_of : M Out :=
  (sRet (eAnd (e1 (gIsi "tuple") (eVar 0)) (e2 gEq (eOp gLen (eCons (eVar 0) eNil)) (eVar 1))))
noncomputable def V_is_tuple_of : List PD → Option Hd := runD 2 B_is_tuple_of
/-! is_integer 0:thing -/
@[reducible] noncomputable def B_is_integer : M Out :=
  (sRet (eAnd (e1 (gIsi "int") (eVar 0)) (eNot (e1 (gIsi "bool") (eVar 0)))))
noncomputable def V_is_integer : List PD → Option Hd := runD 1 B_is_integer
/-! is_within 0:thing 1:least 2:most -/
@[reducible] noncomputable def B_is_within : M Out :=
  (sRet (eAnd (eCall 1 V_is_integer (eCons (eVar 0) eNil)) (eChn (eVar 1) (eLink gLe (eVar 0) (eLast gLe (eVar 2))))))
noncomputable def V_is_within : List PD → Option Hd := runD 3 B_is_within
/-! check_notes 0:notes 1:note -/
@[reducible] noncomputable def B_check_notes_1 : M Out :=
  (sSeq (sIf (tOrD (tNotD (eTst (eCall 2 V_is_tuple_of (eCons (eVar 1) (eCons (eC (.int 2)) eNil))))) (tNotD (eTst (eCall 3 V_is_within (eCons (e2 gIx (eVar 1) (eC (.int 0))) (eCons (eC (.int 0)) (eCons (eC (.int 1000)) eNil))))))) sBad sNx)
    (sIf (tNotD (eTst (eCall 3 V_is_within (eCons (e2 gIx (eVar 1) (eC (.int 1))) (eCons (eC (.int 1)) (eCons (eC (.int 50)) eNil)))))) sBad sNx))
@[reducible] noncomputable def B_check_notes : M Out :=
  (sSeq (sIf (tOrD (tNotD (eTst (e1 (gIsi "tuple") (eVar 0)))) (eTst (e2 gGt (eOp gLen (eCons (eVar 0) eNil)) (eC (.int 30))))) sBad sNx)
    (sFor (eIt (eVar 0)) (gN 1) B_check_notes_1))
noncomputable def V_check_notes : List PD → Option Hd := runD 2 B_check_notes
/-! are_spots 0:notes 1:thing 2:at 3:spot -/
@[reducible] noncomputable def B_are_spots_1 : M Hd :=
  (eAnd (eCall 1 V_is_integer (eCons (eVar 3) eNil)) (e2 gGe (eVar 3) (eC (.int 0))))
@[reducible] noncomputable def B_are_spots_2 : M Hd :=
  (e2 gLe (e2 gAdd (e2 gIx (eVar 1) (eVar 2)) (e2 gIx (e2 gIx (eVar 0) (eVar 2)) (eC (.int 1)))) (e2 gIx (eVar 1) (e2 gAdd (eVar 2) (eC (.int 1)))))
@[reducible] noncomputable def B_are_spots : M Out :=
  (sSeq (sIf (tOrD (tNotD (eTst (e1 (gIsi "tuple") (eVar 1)))) (eTst (e2 gNe (eOp gLen (eCons (eVar 1) eNil)) (eOp gLen (eCons (eVar 0) eNil))))) (sRet (eC (.bool false))) sNx)
    (sSeq (sIf (tNotD (eTst (eOp gAll (eCons (eComp [3] (eIt (eVar 1)) (gN 3) (pur true) B_are_spots_1) eNil)))) (sRet (eC (.bool false))) sNx)
    (sRet (eOp gAll (eCons (eComp [2] (eRng1 (e2 gSub (eOp gLen (eCons (eVar 1) eNil)) (eC (.int 1)))) (gN 2) (pur true) B_are_spots_2) eNil)))))
noncomputable def V_are_spots : List PD → Option Hd := runD 4 B_are_spots
/-! raw_off 0:notes 1:spots 2:note 3:spot -/
@[reducible] noncomputable def B_raw_off_1 : M Hd :=
  (eOp gAbs (eCons (e2 gSub (eVar 3) (e2 gIx (eVar 2) (eC (.int 0)))) eNil))
@[reducible] noncomputable def B_raw_off : M Out :=
  (sRet (eOp gMax (eCons (e2 gAdd (eLst (eCons (eC (.int 0)) eNil)) (eComp [2, 3] (eZip2 (eCons (eVar 0) (eCons (eVar 1) eNil))) (gT 2 (gsC (gN 2) (gsC (gN 3) gsN))) (pur true) B_raw_off_1)) eNil)))
noncomputable def V_raw_off : List PD → Option Hd := runD 4 B_raw_off
/-! off 0:notes 1:spots -/
@[reducible] noncomputable def B_off : M Out :=
  (sSeq (sExpr (eCall 1 V_check_notes (eCons (eVar 0) eNil)))
    (sSeq (sIf (tNotD (eTst (eCall 2 V_are_spots (eCons (eVar 0) (eCons (eVar 1) eNil))))) sBad sNx)
    (sRet (eCall 2 V_raw_off (eCons (eVar 0) (eCons (eVar 1) eNil))))))
noncomputable def V_off : List PD → Option Hd := runD 2 B_off
/-! heights_ahead 0:notes 1:found 2:total 3:wish 4:height -/
@[reducible] noncomputable def B_heights_ahead_1 : M Out :=
  (sSeq (sExpr (eMut uAppend 1 (eCons (eVar 2) eNil)))
    (sAug 2 (fun i j => i + j) (eVar 4)))
@[reducible] noncomputable def B_heights_ahead : M Out :=
  (sSeq (sPar 1 2 (eCons (eLst eNil) (eCons (eC (.int 0)) eNil)))
    (sSeq (sFor (eIt (eVar 0)) (gT 2 (gsC (gN 3) (gsC (gN 4) gsN))) B_heights_ahead_1)
    (sRet (eVar 1))))
noncomputable def V_heights_ahead : List PD → Option Hd := runD 5 B_heights_ahead
/-! top_excess 0:notes 1:last -/
@[reducible] noncomputable def B_top_excess : M Out :=
  (sRet (e2 gSub (e2 gIx (eCall 1 V_heights_ahead (eCons (eVar 0) eNil)) (eVar 1)) (e2 gIx (e2 gIx (eVar 0) (eVar 1)) (eC (.int 0)))))
noncomputable def V_top_excess : List PD → Option Hd := runD 2 B_top_excess
/-! excess_of 0:notes 1:first 2:last 3:ahead -/
@[reducible] noncomputable def B_excess_of : M Out :=
  (sSeq (sSet 3 (eCall 1 V_heights_ahead (eCons (eVar 0) eNil)))
    (sRet (e2 gSub (e2 gSub (e2 gAdd (e2 gIx (e2 gIx (eVar 0) (eVar 1)) (eC (.int 0))) (e2 gIx (eVar 3) (eVar 2))) (e2 gIx (eVar 3) (eVar 1))) (e2 gIx (e2 gIx (eVar 0) (eVar 2)) (eC (.int 0))))))
noncomputable def V_excess_of : List PD → Option Hd := runD 4 B_excess_of
/-! raw_least 0:notes 1:found 2:last 3:first -/
@[reducible] noncomputable def B_raw_least_1 : M Out :=
  (sExpr (eMut uAppend 1 (eCons (e2 gDiv (e2 gAdd (eCall 3 V_excess_of (eCons (eVar 0) (eCons (eVar 3) (eCons (eVar 2) eNil)))) (eC (.int 1))) (eC (.int 2))) eNil)))
@[reducible] noncomputable def B_raw_least_2 : M Out :=
  (sSeq (sExpr (eMut uAppend 1 (eCons (eCall 2 V_top_excess (eCons (eVar 0) (eCons (eVar 2) eNil))) eNil)))
    (sFor (eRng1 (eVar 2)) (gN 3) B_raw_least_1))
@[reducible] noncomputable def B_raw_least : M Out :=
  (sSeq (sSet 1 (eLst (eCons (eC (.int 0)) eNil)))
    (sSeq (sFor (eRng1 (eOp gLen (eCons (eVar 0) eNil))) (gN 2) B_raw_least_2)
    (sRet (eOp gMax (eCons (eVar 1) eNil)))))
noncomputable def V_raw_least : List PD → Option Hd := runD 4 B_raw_least
/-! spots 0:notes 1:least 2:found 3:end 4:wish 5:height -/
@[reducible] noncomputable def B_spots_1 : M Out :=
  (sSeq (sExpr (eMut uAppend 2 (eCons (eOp gMax (eCons (eVar 3) (eCons (e2 gSub (eVar 4) (eVar 1)) eNil))) eNil)))
    (sSet 3 (e2 gAdd (e2 gIx (eVar 2) (e1 gNeg (eC (.int 1)))) (eVar 5))))
@[reducible] noncomputable def B_spots : M Out :=
  (sSeq (sExpr (eCall 1 V_check_notes (eCons (eVar 0) eNil)))
    (sSeq (sPar3 1 2 3 (eCons (eCall 1 V_raw_least (eCons (eVar 0) eNil)) (eCons (eLst eNil) (eCons (eC (.int 0)) eNil))))
    (sSeq (sFor (eIt (eVar 0)) (gT 2 (gsC (gN 4) (gsC (gN 5) gsN))) B_spots_1)
    (sRet (eOp gTuple (eCons (eVar 2) eNil))))))
noncomputable def V_spots : List PD → Option Hd := runD 6 B_spots
/-! least_off 0:notes -/
@[reducible] noncomputable def B_least_off : M Out :=
  (sSeq (sExpr (eCall 1 V_check_notes (eCons (eVar 0) eNil)))
    (sRet (eCall 1 V_raw_least (eCons (eVar 0) eNil))))
noncomputable def V_least_off : List PD → Option Hd := runD 1 B_least_off
/-! is_spots 0:notes 1:thing -/
@[reducible] noncomputable def B_is_spots : M Out :=
  (sSeq (sExpr (eCall 1 V_check_notes (eCons (eVar 0) eNil)))
    (sRet (eCall 2 V_are_spots (eCons (eVar 0) (eCons (eVar 1) eNil)))))
noncomputable def V_is_spots : List PD → Option Hd := runD 2 B_is_spots
/-! is_press 0:notes 1:least 2:first 3:last -/
@[reducible] noncomputable def B_is_press : M Out :=
  (sSeq (sIf (eTst (e2 gIs (eVar 2) (eC .none))) (sRet (e2 gEq (eCall 2 V_top_excess (eCons (eVar 0) (eCons (eVar 3) eNil))) (eVar 1))) sNx)
    (sRet (eAnd (e2 gLe (eVar 2) (eVar 3)) (e2 (inD false) (eCall 3 V_excess_of (eCons (eVar 0) (eCons (eVar 2) (eCons (eVar 3) eNil)))) (eTup (eCons (e2 gMul (eC (.int 2)) (eVar 1)) (eCons (e2 gSub (e2 gMul (eC (.int 2)) (eVar 1)) (eC (.int 1))) eNil)))))))
noncomputable def V_is_press : List PD → Option Hd := runD 4 B_is_press
/-! pressing 0:notes 1:least 2:last 3:first -/
@[reducible] noncomputable def B_pressing_1 : M Out :=
  (sIf (eTst (eCall 4 V_is_press (eCons (eVar 0) (eCons (eVar 1) (eCons (eVar 3) (eCons (eVar 2) eNil)))))) (sRet (eTup (eCons (eVar 3) (eCons (eVar 2) eNil)))) sNx)
@[reducible] noncomputable def B_pressing_2 : M Out :=
  (sFor (eIt (e2 gAdd (eLst (eCons (eC .none) eNil)) (eLR1 (eVar 2)))) (gN 3) B_pressing_1)
@[reducible] noncomputable def B_pressing : M Out :=
  (sSeq (sExpr (eCall 1 V_check_notes (eCons (eVar 0) eNil)))
    (sSeq (sSet 1 (eCall 1 V_raw_least (eCons (eVar 0) eNil)))
    (sSeq (sIf (eTst (e2 gEq (eVar 1) (eC (.int 0)))) (sRet (eC .none)) sNx)
    (sSeq (sFor (eRng1 (eOp gLen (eCons (eVar 0) eNil))) (gN 2) B_pressing_2)
    (sRet (eC .none))))))
noncomputable def V_pressing : List PD → Option Hd := runD 4 B_pressing
/-! _law_presses 0:notes 1:least 2:thing 3:first 4:last 5:ahead -/
@[reducible] noncomputable def B__law_presses : M Out :=
  (sSeq (sIf (tOrD (tNotD (eTst (e1 (gIsi "tuple") (eVar 2)))) (eTst (e2 gNe (eOp gLen (eCons (eVar 2) eNil)) (eC (.int 2))))) (sRet (eC (.bool false))) sNx)
    (sSeq (sAsg (eVar 2) (gT 2 (gsC (gN 3) (gsC (gN 4) gsN))))
    (sSeq (sSet 5 (eCall 1 V__law_ahead (eCons (eVar 0) eNil)))
    (sSeq (sIf (eTst (e2 gIs (eVar 3) (eC .none))) (sRet (eAnd (eChn (eC (.int 0)) (eLink gLe (eVar 4) (eLast gLt (eOp gLen (eCons (eVar 0) eNil))))) (e2 gEq (e2 gSub (e2 gIx (eVar 5) (eVar 4)) (e2 gIx (e2 gIx (eVar 0) (eVar 4)) (eC (.int 0)))) (eVar 1)))) sNx)
    (sSeq (sIf (tNotD (bnd (eC (.int 0)) (eLink gLe (eVar 3) (eLink gLt (eVar 4) (eLast gLt (eOp gLen (eCons (eVar 0) eNil))))))) (sRet (eC (.bool false))) sNx)
    (sRet (e2 (inD false) (eCall 4 V__law_over (eCons (eVar 0) (eCons (eVar 5) (eCons (eVar 3) (eCons (eVar 4) eNil))))) (eTup (eCons (e2 gMul (eC (.int 2)) (eVar 1)) (eCons (e2 gSub (e2 gMul (eC (.int 2)) (eVar 1)) (eC (.int 1))) eNil))))))))))
noncomputable def V__law_presses : List PD → Option Hd := runD 6 B__law_presses
/-! is_pressing 0:notes 1:thing 2:least -/
@[reducible] noncomputable def B_is_pressing : M Out :=
  (sSeq (sExpr (eCall 1 V_check_notes (eCons (eVar 0) eNil)))
    (sSeq (sSet 2 (eCall 1 V_raw_least (eCons (eVar 0) eNil)))
    (sSeq (sIf (eTst (e2 gEq (eVar 2) (eC (.int 0)))) (sRet (e2 gIs (eVar 1) (eC .none))) sNx)
    (sSeq (sIf (tOrD (tNotD (eTst (eCall 2 V_is_tuple_of (eCons (eVar 1) (eCons (eC (.int 2)) eNil))))) (tNotD (eTst (eCall 3 V_is_within (eCons (e2 gIx (eVar 1) (eC (.int 1))) (eCons (eC (.int 0)) (eCons (e2 gSub (eOp gLen (eCons (eVar 0) eNil)) (eC (.int 1))) eNil))))))) (sRet (eC (.bool false))) sNx)
    (sSeq (sIf (tAndD (eTst (e2 gIsNot (e2 gIx (eVar 1) (eC (.int 0))) (eC .none))) (tNotD (eTst (eCall 3 V_is_within (eCons (e2 gIx (eVar 1) (eC (.int 0))) (eCons (eC (.int 0)) (eCons (e2 gIx (eVar 1) (eC (.int 1))) eNil))))))) (sRet (eC (.bool false))) sNx)
    (sRet (eCall 4 V_is_press (eCons (eVar 0) (eCons (eVar 2) (eCons (e2 gIx (eVar 1) (eC (.int 0))) (eCons (e2 gIx (eVar 1) (eC (.int 1))) eNil)))))))))))
noncomputable def V_is_pressing : List PD → Option Hd := runD 3 B_is_pressing
/-! shifted_wishes 0:notes 1:note 2:ahead -/
@[reducible] noncomputable def B_shifted_wishes_1 : M Hd :=
  (e2 gSub (e2 gIx (eVar 1) (eC (.int 0))) (eVar 2))
@[reducible] noncomputable def B_shifted_wishes : M Out :=
  (sRet (eComp [1, 2] (eZip2 (eCons (eVar 0) (eCons (eCall 1 V_heights_ahead (eCons (eVar 0) eNil)) eNil))) (gT 2 (gsC (gN 1) (gsC (gN 2) gsN))) (pur true) B_shifted_wishes_1))
noncomputable def V_shifted_wishes : List PD → Option Hd := runD 3 B_shifted_wishes
/-! sum_rows 0:notes 1:wishes 2:places 3:rows 4:last 5:wish 6:row 7:place 8:before 9:here -/
@[reducible] noncomputable def B_sum_rows_1 : M Out :=
  (sSeq (sSet 9 (e2 gAdd (eVar 8) (eOp gAbs (eCons (e2 gSub (eVar 7) (eVar 5)) eNil))))
    (sExpr (eMut uAppend 6 (eCons (eIf (eTst (e2 gGt (eOp gLen (eCons (eVar 6) eNil)) (eC (.int 0)))) (eOp gMin (eCons (eVar 9) (eCons (e2 gIx (eVar 6) (e1 gNeg (eC (.int 1)))) eNil))) (eVar 9)) eNil))))
@[reducible] noncomputable def B_sum_rows_2 : M Out :=
  (sSeq (sSet 6 (eLst eNil))
    (sSeq (sFor (eZip2 (eCons (eVar 2) (eCons (eVar 4) eNil))) (gT 2 (gsC (gN 7) (gsC (gN 8) gsN))) B_sum_rows_1)
    (sSeq (sExpr (eMut uAppend 3 (eCons (eVar 6) eNil)))
    (sSet 4 (eVar 6)))))
@[reducible] noncomputable def B_sum_rows : M Out :=
  (sSeq (sSet 1 (eCall 1 V_shifted_wishes (eCons (eVar 0) eNil)))
    (sSeq (sSet 2 (eOp gSrt (eCons (eDComp [5] (eIt (eVar 1)) (gN 5) (pur true) (eKey (eOp gMax (eCons (eC (.int 0)) (eCons (eVar 5) eNil)))) (eC (.bool true))) eNil)))
    (sSeq (sPar 3 4 (eCons (eLst eNil) (eCons (e2 gMul (eLst (eCons (eC (.int 0)) eNil)) (eOp gLen (eCons (eVar 2) eNil))) eNil)))
    (sSeq (sFor (eIt (eVar 1)) (gN 5) B_sum_rows_2)
    (sRet (eTup (eCons (eVar 2) (eCons (eVar 3) eNil))))))))
noncomputable def V_sum_rows : List PD → Option Hd := runD 10 B_sum_rows
/-! sum_spots 0:notes 1:places 2:rows 3:ahead 4:found 5:at 6:number -/
@[reducible] noncomputable def B_sum_spots_1 : M Bool :=
  (tAndD (eTst (e2 gGt (eVar 5) (eC (.int 0)))) (eTst (e2 gEq (e2 gIx (e2 gIx (eVar 2) (eVar 6)) (e2 gSub (eVar 5) (eC (.int 1)))) (e2 gIx (e2 gIx (eVar 2) (eVar 6)) (eVar 5)))))
@[reducible] noncomputable def B_sum_spots_2 : M Out :=
  (sAug 5 (fun i j => i - j) (eC (.int 1)))
@[reducible] noncomputable def B_sum_spots_3 : M Out :=
  (sSeq (whileD B_sum_spots_1 B_sum_spots_2 100)
    (sExpr (eMut uAppend 4 (eCons (e2 gAdd (e2 gIx (eVar 1) (eVar 5)) (e2 gIx (eVar 3) (eVar 6))) eNil))))
@[reducible] noncomputable def B_sum_spots : M Out :=
  (sSeq (sExpr (eCall 1 V_check_notes (eCons (eVar 0) eNil)))
    (sSeq (sAsg (eCall 1 V_sum_rows (eCons (eVar 0) eNil)) (gT 2 (gsC (gN 1) (gsC (gN 2) gsN))))
    (sSeq (sPar3 3 4 5 (eCons (eCall 1 V_heights_ahead (eCons (eVar 0) eNil)) (eCons (eLst eNil) (eCons (e2 gSub (eOp gLen (eCons (eVar 1) eNil)) (eC (.int 1))) eNil))))
    (sSeq (sFor (eRngD (e2 gSub (eOp gLen (eCons (eVar 0) eNil)) (eC (.int 1))) (e1 gNeg (eC (.int 1)))) (gN 6) B_sum_spots_3)
    (sRet (eOp gTuple (eCons (e1 gRev (eVar 4)) eNil)))))))
noncomputable def V_sum_spots : List PD → Option Hd := runD 7 B_sum_spots
/-! least_sum 0:notes 1:rows -/
@[reducible] noncomputable def B_least_sum : M Out :=
  (sSeq (sExpr (eCall 1 V_check_notes (eCons (eVar 0) eNil)))
    (sSeq (sSet 1 (e2 gIx (eCall 1 V_sum_rows (eCons (eVar 0) eNil)) (eC (.int 1))))
    (sRet (eIf (eTst (e2 gGt (eOp gLen (eCons (eVar 1) eNil)) (eC (.int 0)))) (e2 gIx (e2 gIx (eVar 1) (e1 gNeg (eC (.int 1)))) (e1 gNeg (eC (.int 1)))) (eC (.int 0))))))
noncomputable def V_least_sum : List PD → Option Hd := runD 2 B_least_sum
/-! _law_sum 0:notes 1:ahead 2:places 3:row 4:note 5:far 6:later 7:best 8:place 9:cost -/
@[reducible] noncomputable def B__law_sum_1 : M Hd :=
  (eOp gMax (eCons (eC (.int 0)) (eCons (e2 gSub (e2 gIx (eVar 4) (eC (.int 0))) (eVar 5)) eNil)))
@[reducible] noncomputable def B__law_sum_2 : M Out :=
  (sSeq (sSet 7 (eIf (eTst (e2 gIs (eVar 7) (eC .none))) (eVar 9) (eOp gMin (eCons (eVar 7) (eCons (eVar 9) eNil)))))
    (sExpr (eMut uAppend 6 (eCons (e2 gAdd (eVar 7) (eOp gAbs (eCons (e2 gSub (e2 gAdd (eVar 8) (eVar 5)) (e2 gIx (eVar 4) (eC (.int 0)))) eNil))) eNil))))
@[reducible] noncomputable def B__law_sum_3 : M Out :=
  (sSeq (sPar 6 7 (eCons (eLst eNil) (eCons (eC .none) eNil)))
    (sSeq (sFor (eZip2 (eCons (eVar 2) (eCons (eVar 3) eNil))) (gT 2 (gsC (gN 8) (gsC (gN 9) gsN))) B__law_sum_2)
    (sSet 3 (eVar 6))))
@[reducible] noncomputable def B__law_sum : M Out :=
  (sSeq (sSet 1 (eCall 1 V__law_ahead (eCons (eVar 0) eNil)))
    (sSeq (sSet 2 (e1 gSrtSet (e2 gAdd (eLst (eCons (eC (.int 0)) eNil)) (eComp [4, 5] (eZip2 (eCons (eVar 0) (eCons (eVar 1) eNil))) (gT 2 (gsC (gN 4) (gsC (gN 5) gsN))) (pur true) B__law_sum_1))))
    (sSeq (sSet 3 (e2 gMul (eLst (eCons (eC (.int 0)) eNil)) (eOp gLen (eCons (eVar 2) eNil))))
    (sSeq (sFor (eZip2 (eCons (eVar 0) (eCons (eVar 1) eNil))) (gT 2 (gsC (gN 4) (gsC (gN 5) gsN))) B__law_sum_3)
    (sRet (eOp gMin (eCons (eVar 3) eNil)))))))
noncomputable def V__law_sum : List PD → Option Hd := runD 10 B__law_sum
/-! _law_are_spots 0:notes 1:thing 2:one 3:later 4:note 5:spot -/
@[reducible] noncomputable def B__law_are_spots_1 : M Hd :=
  (e2 gLt (eVar 5) (eC (.int 0)))
@[reducible] noncomputable def B__law_are_spots_2 : M Hd :=
  (e2 gGe (eVar 3) (e2 gAdd (eVar 2) (e2 gIx (eVar 4) (eC (.int 1)))))
@[reducible] noncomputable def B__law_are_spots : M Out :=
  (sSeq (sIf (tOrD (tNotD (eTst (e1 (gIsi "tuple") (eVar 1)))) (tOrD (eTst (e2 gNe (eOp gLen (eCons (eVar 1) eNil)) (eOp gLen (eCons (eVar 0) eNil)))) (eTst (eOp gAny (eCons (eComp [5] (eIt (eVar 1)) (gN 5) (pur true) B__law_are_spots_1) eNil))))) (sRet (eC (.bool false))) sNx)
    (sRet (eOp gAll (eCons (eComp [2, 3, 4] (eZip3 (eCons (eVar 1) (eCons (eSl (eVar 1) (oSo (eC (.int 1))) oNo) (eCons (eVar 0) eNil)))) (gT 3 (gsC (gN 2) (gsC (gN 3) (gsC (gN 4) gsN)))) (pur true) B__law_are_spots_2) eNil))))
noncomputable def V__law_are_spots : List PD → Option Hd := runD 6 B__law_are_spots
/-! _law_is_right 0:hand 1:notes 2:least 3:own 4:end 5:wish 6:height 7:pair 8:turn 9:last 10:thing 11:at 12:some 13:flag 14:down 15:later 16:spot 17:note -/
@[reducible] noncomputable def B__law_is_right_1 : M Out :=
  (sSeq (sExpr (eMut uAppend 3 (eCons (eOp gMax (eCons (eVar 4) (eCons (e2 gSub (eVar 5) (eVar 2)) eNil))) eNil)))
    (sSet 4 (e2 gAdd (e2 gIx (eVar 3) (e1 gNeg (eC (.int 1)))) (eVar 6))))
@[reducible] noncomputable def B__law_is_right_2 : M Out :=
  (sSeq (sSet 9 (eCallB 1 V__law_draw 0 (eCons (eOp gLen (eCons (eVar 1) eNil)) eNil)))
    (sSeq (sSet 10 (eTup (eCons (eCallB 1 V__law_any 0 (eCons (e2 gAdd (eLst (eCons (eC .none) eNil)) (eLR1 (eVar 9))) eNil)) (eCons (eVar 9) eNil))))
    (sIf (tNotD (eTst (eCall 2 V__law_is (eCons (eCall 2 V_is_pressing (eCons (eVar 1) (eCons (eVar 10) eNil))) (eCons (eCall 3 V__law_presses (eCons (eVar 1) (eCons (eVar 2) (eCons (eVar 10) eNil)))) eNil))))) (sRet (eC (.bool false))) sNx)))
@[reducible] noncomputable def B__law_is_right_3 : M Hd :=
  (eOp gAbs (eCons (e2 gSub (eVar 16) (e2 gIx (eVar 17) (eC (.int 0)))) eNil))
@[reducible] noncomputable def B__law_is_right_4 : M Out :=
  (sSeq (sSet 13 (eCall 2 V__law_are_spots (eCons (eVar 1) (eCons (eVar 10) eNil))))
    (sSeq (sIf (tNotD (eTst (eCall 2 V__law_is (eCons (eCall 2 V_is_spots (eCons (eVar 1) (eCons (eVar 10) eNil))) (eCons (eVar 13) eNil))))) (sRet (eC (.bool false))) sNx)
    (sIf (tAndD (eTst (eVar 13)) (tOrD (eTst (e2 gNe (eCall 2 V_off (eCons (eVar 1) (eCons (eVar 10) eNil))) (eCall 2 V__law_off (eCons (eVar 1) (eCons (eVar 10) eNil))))) (eTst (e2 gLt (eCall 2 V__law_off (eCons (eVar 1) (eCons (eVar 10) eNil))) (eVar 2))))) (sRet (eC (.bool false))) sNx)))
@[reducible] noncomputable def B__law_is_right_5 : M Hd :=
  (e2 gIx (eVar 17) (eC (.int 0)))
@[reducible] noncomputable def B__law_is_right_6 : M Hd :=
  (eTup (eCons (e2 gAdd (eVar 5) (eVar 14)) (eCons (eVar 6) eNil)))
@[reducible] noncomputable def B__law_is_right : M Out :=
  (sSeq (sSet 1 (eCallB 0 V__law_notes 0 eNil))
    (sSeq (sSet 2 (eCall 1 V__law_least (eCons (eVar 1) eNil)))
    (sSeq (sPar 3 4 (eCons (eLst eNil) (eCons (eC (.int 0)) eNil)))
    (sSeq (sFor (eIt (eVar 1)) (gT 2 (gsC (gN 5) (gsC (gN 6) gsN))) B__law_is_right_1)
    (sSeq (sSet 3 (eOp gTuple (eCons (eVar 3) eNil)))
    (sSeq (sIf (tNotD (eTst (eCall 2 V__law_is (eCons (eLst (eCons (eCall 1 V_least_off (eCons (eVar 1) eNil)) (eCons (eCall 1 V_spots (eCons (eVar 1) eNil)) (eCons (eCall 2 V_off (eCons (eVar 1) (eCons (eVar 3) eNil))) eNil)))) (eCons (eLst (eCons (eVar 2) (eCons (eVar 3) (eCons (eCall 2 V__law_off (eCons (eVar 1) (eCons (eVar 3) eNil))) eNil)))) eNil))))) (sRet (eC (.bool false))) sNx)
    (sSeq (sIf (tOrD (eTst (e2 gNe (eCall 2 V__law_off (eCons (eVar 1) (eCons (eVar 3) eNil))) (eVar 2))) (eTst (e2 gIsNot (eCall 2 V_is_spots (eCons (eVar 1) (eCons (eVar 3) eNil))) (eC (.bool true))))) (sRet (eC (.bool false))) sNx)
    (sSeq (sSet 7 (eCall 1 V_pressing (eCons (eVar 1) eNil)))
    (sSeq (sIf (tOrD (eTst (e2 gNe (e2 gIs (eVar 7) (eC .none)) (e2 gEq (eVar 2) (eC (.int 0))))) (tAndD (eTst (e2 gIsNot (eVar 7) (eC .none))) (tNotD (eTst (eCall 3 V__law_presses (eCons (eVar 1) (eCons (eVar 2) (eCons (eVar 7) eNil)))))))) (sRet (eC (.bool false))) sNx)
    (sSeq (sIf (eTst (e2 gGt (eVar 2) (eC (.int 0)))) (sFor (eRng1 (eC (.int 8))) (gN 8) B__law_is_right_2) sNx)
    (sSeq (sSet 11 (eCallB 1 V__law_draw 0 (eCons (eOp gLen (eCons (eVar 1) eNil)) eNil)))
    (sSeq (sSet 12 (eCall 1 V_sum_spots (eCons (eVar 1) eNil)))
    (sSeq (sIf (tOrD (eTst (e2 gNe (eCall 1 V_least_sum (eCons (eVar 1) eNil)) (eCall 1 V__law_sum (eCons (eVar 1) eNil)))) (tNotD (eTst (eCall 2 V__law_are_spots (eCons (eVar 1) (eCons (eVar 12) eNil)))))) (sRet (eC (.bool false))) sNx)
    (sSeq (sIf (eTst (e2 gNe (eOp gSum (eCons (eComp [16, 17] (eZip2 (eCons (eVar 12) (eCons (eVar 1) eNil))) (gT 2 (gsC (gN 16) (gsC (gN 17) gsN))) (pur true) B__law_is_right_3) eNil)) (eCall 1 V__law_sum (eCons (eVar 1) eNil)))) (sRet (eC (.bool false))) sNx)
    (sSeq (sFor (eIt (eTup (eCons (eVar 12) (eCons (e2 gAdd (e2 gAdd (eSl (eVar 3) oNo (oSo (eVar 11))) (eTup (eCons (e2 gAdd (e2 gIx (eVar 3) (eVar 11)) (eC (.int 1))) eNil))) (eSl (eVar 3) (oSo (e2 gAdd (eVar 11) (eC (.int 1)))) oNo)) (eCons (e2 gAdd (e2 gAdd (eSl (eVar 3) oNo (oSo (eVar 11))) (eTup (eCons (e2 gSub (e2 gIx (eVar 3) (eVar 11)) (eC (.int 1))) eNil))) (eSl (eVar 3) (oSo (e2 gAdd (eVar 11) (eC (.int 1)))) oNo)) (eCons (eSl (eVar 3) (oSo (eC (.int 1))) oNo) eNil)))))) (gN 10) B__law_is_right_4)
    (sSeq (sSet 14 (e2 gAdd (eC (.int 1)) (eCallB 1 V__law_draw 0 (eCons (eC (.int 200)) eNil))))
    (sSeq (sIf (eTst (e2 gGt (e2 gAdd (eOp gMax (eCons (eComp [17] (eIt (eVar 1)) (gN 17) (pur true) B__law_is_right_5) eNil)) (eVar 14)) (eC (.int 1000)))) (sRet (eC (.bool true))) sNx)
    (sSeq (sSet 15 (eOp gTuple (eCons (eComp [5, 6] (eIt (eVar 1)) (gT 2 (gsC (gN 5) (gsC (gN 6) gsN))) (pur true) B__law_is_right_6) eNil)))
    (sRet (eAnd (e2 gEq (eCall 1 V_least_off (eCons (eVar 15) eNil)) (eCall 1 V__law_least (eCons (eVar 15) eNil))) (eAnd (e2 gLe (eCall 1 V_least_off (eCons (eVar 15) eNil)) (eVar 2)) (e2 gEq (eCall 1 V_least_sum (eCons (eVar 15) eNil)) (eCall 1 V__law_sum (eCons (eVar 15) eNil))))))))))))))))))))))))
noncomputable def V__law_is_right : List PD → List PD → Option (Hd × List PD) := runB 18 B__law_is_right
/-! law 0:script 1:hand 2:turn -/
@[reducible] noncomputable def B_law_1 : M Out :=
  (sIf (tNotD (eTst (eCallB 0 V__law_is_right 1 eNil))) (sRet (eC (.bool false))) sNx)
@[reducible] noncomputable def B_law : M Out :=
  (sSeq (sSet 1 (eCallS V__law_hand 0))
    (sSeq (sFor (eRng1 (eC (.int 4))) (gN 2) B_law_1)
    (sRet (eC (.bool true)))))
noncomputable def V_law : List Int → Option Hd := runS 3 B_law
end K07
set_option Elab.async false
set_option linter.all false
set_option maxRecDepth 100000
namespace K07
open PySem PySem.Spec PyProof.Rows L2 DL
def topS (i : Nat) : Stmt := PySem.Challenge.pw_inkandlead_k07_whole_thirty_notes_in_the.main.body.getD i (.Pass ⟨0, 0, 0, 0⟩)
/-- what the text takes from outside its defs -/
structure Cn (K : PySem.W.Frag) (mg : Str → Option Value) : Prop where
  n_abs : mg "abs" = none
  n_all : mg "all" = none
  n_any : mg "any" = none
  n_bool : mg "bool" = none
  n_int : mg "int" = none
  n_isinstance : mg "isinstance" = none
  n_len : mg "len" = none
  n_list : mg "list" = none
  n_max : mg "max" = none
  n_min : mg "min" = none
  n_range : mg "range" = none
  n_repr : mg "repr" = none
  n_set : mg "set" = none
  n_sorted : mg "sorted" = none
  n_sum : mg "sum" = none
  n_tuple : mg "tuple" = none
  n_zip : mg "zip" = none
  c_MOST_HEIGHT : ∃ t, mg "MOST_HEIGHT" = some (.int 50 t)
  c_MOST_NOTES : ∃ t, mg "MOST_NOTES" = some (.int 30 t)
  c_MOST_WISH : ∃ t, mg "MOST_WISH" = some (.int 1000 t)
  i_bool : IsiOk K "bool"
  i_int : IsiOk K "int"
  i_tuple : IsiOk K "tuple"
theorem sc__law_hand : FnScope ["script", "cells", "cell"] ["script"] (defScope (topS 31)) := ⟨rfl, rfl, rfl, by decide +kernel, rfl, by decide +kernel, by decide +kernel⟩
theorem b__law_hand {P : Program} {w : World} {K : PySem.W.Frag} {mg : Str → Option Value} {base : Heap} (C : Cn K mg)  :
    Bod P w K mg base 0 ["script", "cells", "cell"] "_law_hand" (topS 31) B__law_hand :=
  fun f cdv A outer s H hr => (ss_cons (s_setLc (own := [("cell", 2)]) (vs := [2]) rfl sc__law_hand.nd (i := 1) rfl rfl (sw_true rfl rfl rfl (by decide +kernel)) (i_script (n := 61) (pe_var (i := 0) rfl (.inl rfl))) (blkOk_by (N := ["script", "cells", "cell"]) (sc := defScope (topS 31)) (by decide +kernel)) (by decide) (fun _ _ _ _ _ => (g_name (i := 2) sc__law_hand.nd rfl (by first | exact .inl rfl | exact .inr rfl))) (fun _ _ _ _ _ => t_yes) (fun _ _ _ _ _ => (d_callB call_abs_D (by rfl) C.n_abs rfl (d_cons (d_callTy call_int_D (by rfl) C.n_int rfl (d_cons (d_var (pe_var (i := 2) rfl (by first | exact .inl rfl | exact .inr (.inl rfl) | exact .inr (.inr rfl)))) d_nil)) d_nil))))
    (ss_one (s_ret (d_lst (d_cons (d_var (pe_var (i := 1) rfl (.inl rfl))) (d_cons d_int (d_cons d_int (d_cons (d_bin ho_add d_int (d_bin ho_mul d_int (d_callB call_len_D (by rfl) C.n_len rfl (d_cons (d_var (pe_var (i := 1) rfl (.inl rfl))) d_nil)))) (d_cons d_int d_nil)))))))))
theorem w__law_hand {P : Program} {w : World} {K : PySem.W.Frag} {mg : Str → Option Value} {base : Heap} (C : Cn K mg) (A : DefAt K mg "_law_hand" ["script"] (topS 31))  :
    Sub P w K mg base 1 "_law_hand" ["script"] (spS K V__law_hand) := DL.subS A sc__law_hand (b__law_hand C)
theorem sc__law_draw : FnScope ["hand", "many", "cell", "digit", "number"] ["hand", "many"] (defScope (topS 32)) := ⟨rfl, rfl, rfl, by decide +kernel, rfl, by decide +kernel, by decide +kernel⟩
theorem b__law_draw {P : Program} {w : World} {K : PySem.W.Frag} {mg : Str → Option Value} {base : Heap} (C : Cn K mg)  :
    Bod P w K mg base 0 ["hand", "many", "cell", "digit", "number"] "_law_draw" (topS 32) B__law_draw :=
  fun f cdv A outer s H hr => (ss_cons (s_if ((t_and (t_cmp ho_eq (d_ix ho_ix (fun _ _ => rfl) (d_var (pe_var (i := 0) rfl (.inl rfl))) d_int) d_int (nomark _)) (t_and1 (t_cmp ho_lt (d_ix ho_ix (fun _ _ => rfl) (d_var (pe_var (i := 0) rfl (.inl rfl))) d_int) (d_callB call_len_D (by rfl) C.n_len rfl (d_cons (d_ix ho_ix (fun _ _ => rfl) (d_var (pe_var (i := 0) rfl (.inl rfl))) d_int) d_nil)) (nomark _))))).pt (ss_cons (s_set (i := 2) sc__law_draw.nd rfl (.inl rfl) (d_ix ho_ix (fun _ _ => rfl) (d_ix ho_ix (fun _ _ => rfl) (d_var (pe_var (i := 0) rfl (.inl rfl))) d_int) (d_ix ho_ix (fun _ _ => rfl) (d_var (pe_var (i := 0) rfl (.inl rfl))) d_int)))
    (ss_cons (s_setIx (i := 0) (d_bin ho_add (d_ix ho_ix (fun _ _ => rfl) (d_var (pe_var (i := 0) rfl (.inl rfl))) d_int) d_int) (pe_var (i := 0) rfl (.inl rfl)) d_int)
    (ss_cons (s_setIx (i := 0) (d_bin ho_mod (d_callTy call_int_D (by rfl) C.n_int rfl (d_cons (d_bin ho_add (d_bin ho_add (d_bin ho_mul (d_ix ho_ix (fun _ _ => rfl) (d_var (pe_var (i := 0) rfl (.inl rfl))) d_int) d_int) (d_bin ho_mul (d_var (pe_var (i := 2) rfl (.inl rfl))) d_int)) d_int) d_nil)) d_int) (pe_var (i := 0) rfl (.inl rfl)) d_int)
    (ss_one (s_if (t_cmp ho_ge (d_var (pe_var (i := 2) rfl (.inl rfl))) (d_bin ho_pow d_int d_int) (nomark _)) (ss_one (s_setIx (i := 0) (d_var (pe_var (i := 2) rfl (.inl rfl))) (pe_var (i := 0) rfl (.inl rfl)) d_int)) ss_nil))))) ss_nil)
    (ss_cons (s_if (t_cmp ho_gt (d_ix ho_ix (fun _ _ => rfl) (d_var (pe_var (i := 0) rfl (.inl rfl))) d_int) d_int (nomark _)) (ss_cons (s_set (i := 3) sc__law_draw.nd rfl (.inl rfl) (d_bin ho_mod (d_callTy call_int_D (by rfl) C.n_int rfl (d_cons (d_ix ho_ix (fun _ _ => rfl) (d_var (pe_var (i := 0) rfl (.inl rfl))) d_int) d_nil)) (d_var (pe_var (i := 1) rfl (.inl rfl)))))
    (ss_cons (s_setIx (i := 0) (d_bin ho_div (d_ix ho_ix (fun _ _ => rfl) (d_var (pe_var (i := 0) rfl (.inl rfl))) d_int) (d_var (pe_var (i := 1) rfl (.inl rfl)))) (pe_var (i := 0) rfl (.inl rfl)) d_int)
    (ss_one (s_ret (d_var (pe_var (i := 3) rfl (.inl rfl))))))) ss_nil)
    (ss_cons (s_setIx (i := 0) (d_bin ho_add (d_ix ho_ix (fun _ _ => rfl) (d_var (pe_var (i := 0) rfl (.inl rfl))) d_int) d_int) (pe_var (i := 0) rfl (.inl rfl)) d_int)
    (ss_cons (s_set (i := 4) sc__law_draw.nd rfl (.inl rfl) (d_bin ho_mod (d_callTy call_int_D (by rfl) C.n_int rfl (d_cons (d_bin ho_mul (d_callTy call_int_D (by rfl) C.n_int rfl (d_cons (d_bin ho_add (d_ix ho_ix (fun _ _ => rfl) (d_var (pe_var (i := 0) rfl (.inl rfl))) d_int) (d_bin ho_mul d_int (d_ix ho_ix (fun _ _ => rfl) (d_var (pe_var (i := 0) rfl (.inl rfl))) d_int))) d_nil)) d_int) d_nil)) d_int))
    (ss_cons (s_set (i := 4) sc__law_draw.nd rfl (.inl rfl) (d_bin ho_mod (d_callTy call_int_D (by rfl) C.n_int rfl (d_cons (d_bin ho_mul (d_var (pe_var (i := 4) rfl (.inl rfl))) (d_bin ho_add (d_bin ho_div (d_var (pe_var (i := 4) rfl (.inl rfl))) d_int) d_int)) d_nil)) d_int))
    (ss_cons (s_set (i := 4) sc__law_draw.nd rfl (.inl rfl) (d_bin ho_mod (d_callTy call_int_D (by rfl) C.n_int rfl (d_cons (d_bin ho_mul (d_var (pe_var (i := 4) rfl (.inl rfl))) (d_bin ho_add (d_bin ho_div (d_var (pe_var (i := 4) rfl (.inl rfl))) d_int) d_int)) d_nil)) d_int))
    (ss_one (s_ret (d_bin ho_mod (d_callTy call_int_D (by rfl) C.n_int rfl (d_cons (d_bin ho_div (d_var (pe_var (i := 4) rfl (.inl rfl))) d_int) d_nil)) (d_var (pe_var (i := 1) rfl (.inl rfl))))))))))))
theorem w__law_draw {P : Program} {w : World} {K : PySem.W.Frag} {mg : Str → Option Value} {base : Heap} (C : Cn K mg) (A : DefAt K mg "_law_draw" ["hand", "many"] (topS 32))  :
    Sub P w K mg base 1 "_law_draw" ["hand", "many"] (spB K 1 V__law_draw) := DL.subB (n := 1) A sc__law_draw rfl (b__law_draw C)
theorem sc__law_any : FnScope ["hand", "some"] ["hand", "some"] (defScope (topS 33)) := ⟨rfl, rfl, rfl, by decide +kernel, rfl, by decide +kernel, by decide +kernel⟩
theorem b__law_any {P : Program} {w : World} {K : PySem.W.Frag} {mg : Str → Option Value} {base : Heap} (C : Cn K mg) (h__law_draw : Sub P w K mg base 1 "_law_draw" ["hand", "many"] (spB K 1 V__law_draw)) :
    Bod P w K mg base 1 ["hand", "some"] "_law_any" (topS 33) B__law_any :=
  fun f cdv A outer s H hr => (ss_one (s_ret (d_ix ho_ix (fun _ _ => rfl) (d_var (pe_var (i := 1) rfl (.inl rfl))) (d_subB h__law_draw (by decide) hr (by rfl) (pe_var (i := 0) rfl (.inl rfl)) (d_cons (d_callB call_len_D (by rfl) C.n_len rfl (d_cons (d_var (pe_var (i := 1) rfl (.inl rfl))) d_nil)) d_nil)))))
theorem w__law_any {P : Program} {w : World} {K : PySem.W.Frag} {mg : Str → Option Value} {base : Heap} (C : Cn K mg) (A : DefAt K mg "_law_any" ["hand", "some"] (topS 33)) (h__law_draw : Sub P w K mg base 1 "_law_draw" ["hand", "many"] (spB K 1 V__law_draw)) :
    Sub P w K mg base 2 "_law_any" ["hand", "some"] (spB K 1 V__law_any) := DL.subB (n := 1) A sc__law_any rfl (b__law_any C h__law_draw)
theorem sc__law_notes : FnScope ["hand", "near", "great", "found", "note"] ["hand"] (defScope (topS 35)) := ⟨rfl, rfl, rfl, by decide +kernel, rfl, by decide +kernel, by decide +kernel⟩
theorem b__law_notes {P : Program} {w : World} {K : PySem.W.Frag} {mg : Str → Option Value} {base : Heap} (C : Cn K mg) (h__law_any : Sub P w K mg base 2 "_law_any" ["hand", "some"] (spB K 1 V__law_any)) (h__law_draw : Sub P w K mg base 1 "_law_draw" ["hand", "many"] (spB K 1 V__law_draw)) :
    Bod P w K mg base 2 ["hand", "near", "great", "found", "note"] "_law_notes" (topS 35) B__law_notes :=
  fun f cdv A outer s H hr => (ss_cons (s_asg (d_tup (d_cons (d_subB h__law_any (by decide) hr (by rfl) (pe_var (i := 0) rfl (.inr (.inl rfl))) (d_cons (d_lst (d_cons d_int (d_cons d_int (d_cons d_int d_nil)))) d_nil)) (d_cons (d_subB h__law_any (by decide) hr (by rfl) (pe_var (i := 0) rfl (.inr (.inl rfl))) (d_cons (d_lst (d_cons d_int (d_cons d_int (d_cons d_int d_nil)))) d_nil)) d_nil))) (g_tup rfl (gs_cons (g_name (i := 1) sc__law_notes.nd rfl (.inr rfl)) (gs_cons (g_name (i := 2) sc__law_notes.nd rfl (.inr rfl)) gs_nil))))
    (ss_cons (s_setLc (own := [("note", 4)]) (vs := [4]) rfl sc__law_notes.nd (i := 3) rfl rfl (sw_true rfl rfl rfl (by decide +kernel)) (i_range1 (by rfl) C.n_range (d_subB h__law_any (by decide) hr (by rfl) (pe_var (i := 0) rfl (.inr (.inl rfl))) (d_cons (d_lst (d_cons d_int (d_cons d_int (d_cons d_int (d_cons d_int d_nil))))) d_nil))) (blkOk_by (N := ["hand", "near", "great", "found", "note"]) (sc := defScope (topS 35)) (by decide +kernel)) (by decide) (fun _ _ _ _ _ => (g_name (i := 4) sc__law_notes.nd rfl (by first | exact .inl rfl | exact .inr rfl))) (fun _ _ _ _ _ => t_yes) (fun _ _ _ _ _ => (d_tup (d_cons (d_subB h__law_draw (by decide) hr (by rfl) (pe_var (i := 0) rfl (by first | exact .inl rfl | exact .inr (.inl rfl) | exact .inr (.inr rfl))) (d_cons (d_var (pe_var (i := 1) rfl (by first | exact .inl rfl | exact .inr (.inl rfl) | exact .inr (.inr rfl)))) d_nil)) (d_cons (d_bin ho_add d_int (d_subB h__law_draw (by decide) hr (by rfl) (pe_var (i := 0) rfl (by first | exact .inl rfl | exact .inr (.inl rfl) | exact .inr (.inr rfl))) (d_cons (d_var (pe_var (i := 2) rfl (by first | exact .inl rfl | exact .inr (.inl rfl) | exact .inr (.inr rfl)))) d_nil))) d_nil)))))
    (ss_one (s_ret (d_if (t_cmp ho_gt (d_subB h__law_draw (by decide) hr (by rfl) (pe_var (i := 0) rfl (.inr (.inl rfl))) (d_cons d_int d_nil)) d_int (nomark _)) (d_callTy call_tuple_D (by rfl) C.n_tuple rfl (d_cons (d_callB (call_srt_D rfl) (by rfl) C.n_sorted rfl (d_cons (d_var (pe_var (i := 3) rfl (.inl rfl))) d_nil)) d_nil)) (d_callTy call_tuple_D (by rfl) C.n_tuple rfl (d_cons (d_var (pe_var (i := 3) rfl (.inl rfl))) d_nil)))))))
theorem w__law_notes {P : Program} {w : World} {K : PySem.W.Frag} {mg : Str → Option Value} {base : Heap} (C : Cn K mg) (A : DefAt K mg "_law_notes" ["hand"] (topS 35)) (h__law_any : Sub P w K mg base 2 "_law_any" ["hand", "some"] (spB K 1 V__law_any)) (h__law_draw : Sub P w K mg base 1 "_law_draw" ["hand", "many"] (spB K 1 V__law_draw)) :
    Sub P w K mg base 3 "_law_notes" ["hand"] (spB K 0 V__law_notes) := DL.subB (n := 0) A sc__law_notes rfl (b__law_notes C h__law_any h__law_draw)
theorem sc__law_ahead : FnScope ["notes", "found", "wish", "height"] ["notes"] (defScope (topS 36)) := ⟨rfl, rfl, rfl, by decide +kernel, rfl, by decide +kernel, by decide +kernel⟩
theorem b__law_ahead {P : Program} {w : World} {K : PySem.W.Frag} {mg : Str → Option Value} {base : Heap} (C : Cn K mg)  :
    Bod P w K mg base 0 ["notes", "found", "wish", "height"] "_law_ahead" (topS 36) B__law_ahead :=
  fun f cdv A outer s H hr => (ss_cons (s_set (i := 1) sc__law_ahead.nd rfl (.inl rfl) (d_lst (d_cons d_int d_nil)))
    (ss_cons (s_for PassesOwn.never rfl (i_seq (d_var (pe_var (i := 0) rfl (.inl rfl)))) (g_tup rfl (gs_cons (g_name (i := 2) sc__law_ahead.nd rfl (.inl rfl)) (gs_cons (g_name (i := 3) sc__law_ahead.nd rfl (.inl rfl)) gs_nil))) (ss_one (s_expr (d_meth PySem.F.slot_list_append PySem.F.type_list_append mt_append m_append (pe_var (i := 1) rfl (.inl rfl)) (d_cons (d_bin ho_add (d_ix ho_ix (fun _ _ => rfl) (d_var (pe_var (i := 1) rfl (.inl rfl))) (d_un ho_neg d_int)) (d_var (pe_var (i := 3) rfl (.inl rfl)))) d_nil)))))
    (ss_one (s_ret (d_var (pe_var (i := 1) rfl (.inl rfl)))))))
theorem w__law_ahead {P : Program} {w : World} {K : PySem.W.Frag} {mg : Str → Option Value} {base : Heap} (C : Cn K mg) (A : DefAt K mg "_law_ahead" ["notes"] (topS 36))  :
    Sub P w K mg base 1 "_law_ahead" ["notes"] (spD K 1 V__law_ahead) := DL.subD A sc__law_ahead (b__law_ahead C)
theorem sc__law_over : FnScope ["notes", "ahead", "first", "last"] ["notes", "ahead", "first", "last"] (defScope (topS 37)) := ⟨rfl, rfl, rfl, by decide +kernel, rfl, by decide +kernel, by decide +kernel⟩
theorem b__law_over {P : Program} {w : World} {K : PySem.W.Frag} {mg : Str → Option Value} {base : Heap} (C : Cn K mg)  :
    Bod P w K mg base 0 ["notes", "ahead", "first", "last"] "_law_over" (topS 37) B__law_over :=
  fun f cdv A outer s H hr => (ss_one (s_ret (d_bin ho_sub (d_bin ho_sub (d_bin ho_add (d_ix ho_ix (fun _ _ => rfl) (d_ix ho_ix (fun _ _ => rfl) (d_var (pe_var (i := 0) rfl (.inl rfl))) (d_var (pe_var (i := 2) rfl (.inl rfl)))) d_int) (d_ix ho_ix (fun _ _ => rfl) (d_var (pe_var (i := 1) rfl (.inl rfl))) (d_var (pe_var (i := 3) rfl (.inl rfl))))) (d_ix ho_ix (fun _ _ => rfl) (d_var (pe_var (i := 1) rfl (.inl rfl))) (d_var (pe_var (i := 2) rfl (.inl rfl))))) (d_ix ho_ix (fun _ _ => rfl) (d_ix ho_ix (fun _ _ => rfl) (d_var (pe_var (i := 0) rfl (.inl rfl))) (d_var (pe_var (i := 3) rfl (.inl rfl)))) d_int))))
theorem w__law_over {P : Program} {w : World} {K : PySem.W.Frag} {mg : Str → Option Value} {base : Heap} (C : Cn K mg) (A : DefAt K mg "_law_over" ["notes", "ahead", "first", "last"] (topS 37))  :
    Sub P w K mg base 1 "_law_over" ["notes", "ahead", "first", "last"] (spD K 4 V__law_over) := DL.subD A sc__law_over (b__law_over C)
theorem sc__law_least : FnScope ["notes", "ahead", "found", "last", "first"] ["notes"] (defScope (topS 38)) := ⟨rfl, rfl, rfl, by decide +kernel, rfl, by decide +kernel, by decide +kernel⟩
theorem b__law_least {P : Program} {w : World} {K : PySem.W.Frag} {mg : Str → Option Value} {base : Heap} (C : Cn K mg) (h__law_ahead : Sub P w K mg base 1 "_law_ahead" ["notes"] (spD K 1 V__law_ahead)) (h__law_over : Sub P w K mg base 1 "_law_over" ["notes", "ahead", "first", "last"] (spD K 4 V__law_over)) :
    Bod P w K mg base 1 ["notes", "ahead", "found", "last", "first"] "_law_least" (topS 38) B__law_least :=
  fun f cdv A outer s H hr => (ss_cons (s_set (i := 1) sc__law_least.nd rfl (.inr rfl) (d_sub h__law_ahead (by decide) hr (by rfl) (d_cons (d_var (pe_var (i := 0) rfl (.inr (.inl rfl)))) d_nil)))
    (ss_cons (s_set (i := 2) sc__law_least.nd rfl (.inl rfl) (d_bin ho_add (d_lst (d_cons d_int d_nil)) (d_comp (own := [("last", 3)]) (vs := [3]) rfl sc__law_least.nd (i_range1 (by rfl) C.n_range (d_callB call_len_D (by rfl) C.n_len rfl (d_cons (d_var (pe_var (i := 0) rfl (.inr (.inl rfl)))) d_nil))) (blkOk_by (N := ["notes", "ahead", "found", "last", "first"]) (sc := defScope (topS 38)) (by decide +kernel)) (by decide) (fun _ _ _ _ _ => (g_name (i := 3) sc__law_least.nd rfl (by first | exact .inl rfl | exact .inr rfl))) (fun _ _ _ _ _ => t_yes) (fun _ _ _ _ _ => (d_bin ho_sub (d_ix ho_ix (fun _ _ => rfl) (d_var (pe_var (i := 1) rfl (by first | exact .inl rfl | exact .inr (.inl rfl) | exact .inr (.inr rfl)))) (d_var (pe_var (i := 3) rfl (by first | exact .inl rfl | exact .inr (.inl rfl) | exact .inr (.inr rfl))))) (d_ix ho_ix (fun _ _ => rfl) (d_ix ho_ix (fun _ _ => rfl) (d_var (pe_var (i := 0) rfl (by first | exact .inl rfl | exact .inr (.inl rfl) | exact .inr (.inr rfl)))) (d_var (pe_var (i := 3) rfl (by first | exact .inl rfl | exact .inr (.inl rfl) | exact .inr (.inr rfl))))) d_int))))))
    (ss_cons (s_for PassesOwn.never rfl (i_range1 (by rfl) C.n_range (d_callB call_len_D (by rfl) C.n_len rfl (d_cons (d_var (pe_var (i := 0) rfl (.inr (.inl rfl)))) d_nil))) (g_name (i := 3) sc__law_least.nd rfl (.inr rfl)) (ss_one (s_expr (d_meth PySem.F.slot_list_extend PySem.F.type_list_extend mt_extend m_extend (pe_var (i := 2) rfl (.inl rfl)) (d_cons (d_comp (own := [("first", 4)]) (vs := [4]) rfl sc__law_least.nd (i_range1 (by rfl) C.n_range (d_var (pe_var (i := 3) rfl (.inr (.inl rfl))))) (blkOk_by (N := ["notes", "ahead", "found", "last", "first"]) (sc := defScope (topS 38)) (by decide +kernel)) (by decide) (fun _ _ _ _ _ => (g_name (i := 4) sc__law_least.nd rfl (by first | exact .inl rfl | exact .inr rfl))) (fun _ _ _ _ _ => t_yes) (fun _ _ _ _ _ => (d_bin ho_div (d_bin ho_add (d_sub h__law_over (by decide) hr (by rfl) (d_cons (d_var (pe_var (i := 0) rfl (by first | exact .inl rfl | exact .inr (.inl rfl) | exact .inr (.inr rfl)))) (d_cons (d_var (pe_var (i := 1) rfl (by first | exact .inl rfl | exact .inr (.inl rfl) | exact .inr (.inr rfl)))) (d_cons (d_var (pe_var (i := 4) rfl (by first | exact .inl rfl | exact .inr (.inl rfl) | exact .inr (.inr rfl)))) (d_cons (d_var (pe_var (i := 3) rfl (by first | exact .inl rfl | exact .inr (.inl rfl) | exact .inr (.inr rfl)))) d_nil))))) d_int) d_int))) d_nil)))))
    (ss_one (s_ret (d_callB (call_max_D rfl) (by rfl) C.n_max rfl (d_cons (d_var (pe_var (i := 2) rfl (.inl rfl))) d_nil)))))))
theorem w__law_least {P : Program} {w : World} {K : PySem.W.Frag} {mg : Str → Option Value} {base : Heap} (C : Cn K mg) (A : DefAt K mg "_law_least" ["notes"] (topS 38)) (h__law_ahead : Sub P w K mg base 1 "_law_ahead" ["notes"] (spD K 1 V__law_ahead)) (h__law_over : Sub P w K mg base 1 "_law_over" ["notes", "ahead", "first", "last"] (spD K 4 V__law_over)) :
    Sub P w K mg base 2 "_law_least" ["notes"] (spD K 1 V__law_least) := DL.subD A sc__law_least (b__law_least C h__law_ahead h__law_over)
theorem sc__law_is : FnScope ["told", "due"] ["told", "due"] (defScope (topS 34)) := ⟨rfl, rfl, rfl, by decide +kernel, rfl, by decide +kernel, by decide +kernel⟩
theorem b__law_is {P : Program} {w : World} {K : PySem.W.Frag} {mg : Str → Option Value} {base : Heap} (C : Cn K mg)  :
    Bod P w K mg base 0 ["told", "due"] "_law_is" (topS 34) B__law_is :=
  fun f cdv A outer s H hr => (ss_one (s_ret (d_cmp ho_eq (d_callB (call_repr_D hr.2 (by have := hr.1.un; omega)) (by rfl) C.n_repr rfl (d_cons (d_var (pe_var (i := 0) rfl (.inl rfl))) d_nil)) (d_callB (call_repr_D hr.2 (by have := hr.1.un; omega)) (by rfl) C.n_repr rfl (d_cons (d_var (pe_var (i := 1) rfl (.inl rfl))) d_nil)) (nomark _))))
theorem w__law_is {P : Program} {w : World} {K : PySem.W.Frag} {mg : Str → Option Value} {base : Heap} (C : Cn K mg) (A : DefAt K mg "_law_is" ["told", "due"] (topS 34))  :
    Sub P w K mg base 1 "_law_is" ["told", "due"] (spD K 2 V__law_is) := DL.subD A sc__law_is (b__law_is C)
theorem sc__law_off : FnScope ["notes", "some", "spot", "note"] ["notes", "some"] (defScope (topS 40)) := ⟨rfl, rfl, rfl, by decide +kernel, rfl, by decide +kernel, by decide +kernel⟩
theorem b__law_off {P : Program} {w : World} {K : PySem.W.Frag} {mg : Str → Option Value} {base : Heap} (C : Cn K mg)  :
    Bod P w K mg base 0 ["notes", "some", "spot", "note"] "_law_off" (topS 40) B__law_off :=
  fun f cdv A outer s H hr => (ss_one (s_ret (d_callB (call_max_D rfl) (by rfl) C.n_max rfl (d_cons (d_comp (own := [("spot", 2), ("note", 3)]) (vs := [2, 3]) rfl sc__law_off.nd (i_zip2 (by rfl) C.n_zip (d_cons (d_var (pe_var (i := 1) rfl (.inl rfl))) (d_cons (d_var (pe_var (i := 0) rfl (.inl rfl))) d_nil))) (blkOk_by (N := ["notes", "some", "spot", "note"]) (sc := defScope (topS 40)) (by decide +kernel)) (by decide) (fun _ _ _ _ _ => (g_tup rfl (gs_cons (g_name (i := 2) sc__law_off.nd rfl (by first | exact .inl rfl | exact .inr rfl)) (gs_cons (g_name (i := 3) sc__law_off.nd rfl (by first | exact .inl rfl | exact .inr rfl)) gs_nil)))) (fun _ _ _ _ _ => t_yes) (fun _ _ _ _ _ => (d_callB call_abs_D (by rfl) C.n_abs rfl (d_cons (d_bin ho_sub (d_var (pe_var (i := 2) rfl (by first | exact .inl rfl | exact .inr (.inl rfl) | exact .inr (.inr rfl)))) (d_ix ho_ix (fun _ _ => rfl) (d_var (pe_var (i := 3) rfl (by first | exact .inl rfl | exact .inr (.inl rfl) | exact .inr (.inr rfl)))) d_int)) d_nil)))) d_nil))))
theorem w__law_off {P : Program} {w : World} {K : PySem.W.Frag} {mg : Str → Option Value} {base : Heap} (C : Cn K mg) (A : DefAt K mg "_law_off" ["notes", "some"] (topS 40))  :
    Sub P w K mg base 1 "_law_off" ["notes", "some"] (spD K 2 V__law_off) := DL.subD A sc__law_off (b__law_off C)
theorem sc_is_tuple_of : FnScope ["thing", "size"] ["thing", "size"] (defScope (topS 3)) := ⟨rfl, rfl, rfl, by decide +kernel, rfl, by decide +kernel, by decide +kernel⟩
theorem b_is_tuple_of {P : Program} {w : World} {K : PySem.W.Frag} {mg : Str → Option Value} {base : Heap} (C : Cn K mg)  :
    Bod P w K mg base 0 ["thing", "size"] "is_tuple_of" (topS 3) B_is_tuple_of :=
  fun f cdv A outer s H hr => (ss_one (s_ret (d_and (d_isi C.i_tuple (by rfl) C.n_isinstance (d_var (pe_var (i := 0) rfl (.inl rfl))) (pe_bltn (by rfl) C.n_tuple rfl rfl)) (d_one (d_cmp ho_eq (d_callB call_len_D (by rfl) C.n_len rfl (d_cons (d_var (pe_var (i := 0) rfl (.inl rfl))) d_nil)) (d_var (pe_var (i := 1) rfl (.inl rfl))) (nomark _))))))
theorem w_is_tuple_of {P : Program} {w : World} {K : PySem.W.Frag} {mg : Str → Option Value} {base : Heap} (C : Cn K mg) (A : DefAt K mg "is_tuple_of" ["thing", "size"] (topS 3))  :
    Sub P w K mg base 1 "is_tuple_of" ["thing", "size"] (spD K 2 V_is_tuple_of) := DL.subD A sc_is_tuple_of (b_is_tuple_of C)
theorem sc_is_integer : FnScope ["thing"] ["thing"] (defScope (topS 1)) := ⟨rfl, rfl, rfl, by decide +kernel, rfl, by decide +kernel, by decide +kernel⟩
theorem b_is_integer {P : Program} {w : World} {K : PySem.W.Frag} {mg : Str → Option Value} {base : Heap} (C : Cn K mg)  :
    Bod P w K mg base 0 ["thing"] "is_integer" (topS 1) B_is_integer :=
  fun f cdv A outer s H hr => (ss_one (s_ret (d_and (d_isi C.i_int (by rfl) C.n_isinstance (d_var (pe_var (i := 0) rfl (.inl rfl))) (pe_bltn (by rfl) C.n_int rfl rfl)) (d_one (d_not (d_isi C.i_bool (by rfl) C.n_isinstance (d_var (pe_var (i := 0) rfl (.inl rfl))) (pe_bltn (by rfl) C.n_bool rfl rfl)))))))
theorem w_is_integer {P : Program} {w : World} {K : PySem.W.Frag} {mg : Str → Option Value} {base : Heap} (C : Cn K mg) (A : DefAt K mg "is_integer" ["thing"] (topS 1))  :
    Sub P w K mg base 1 "is_integer" ["thing"] (spD K 1 V_is_integer) := DL.subD A sc_is_integer (b_is_integer C)
theorem sc_is_within : FnScope ["thing", "least", "most"] ["thing", "least", "most"] (defScope (topS 2)) := ⟨rfl, rfl, rfl, by decide +kernel, rfl, by decide +kernel, by decide +kernel⟩
theorem b_is_within {P : Program} {w : World} {K : PySem.W.Frag} {mg : Str → Option Value} {base : Heap} (C : Cn K mg) (h_is_integer : Sub P w K mg base 1 "is_integer" ["thing"] (spD K 1 V_is_integer)) :
    Bod P w K mg base 1 ["thing", "least", "most"] "is_within" (topS 2) B_is_within :=
  fun f cdv A outer s H hr => (ss_one (s_ret (d_and (d_sub h_is_integer (by decide) hr (by rfl) (d_cons (d_var (pe_var (i := 0) rfl (.inl rfl))) d_nil)) (d_one (d_chn (d_var (pe_var (i := 1) rfl (.inl rfl))) (ch_link ho_le (d_var (pe_var (i := 0) rfl (.inl rfl))) (ch_last ho_le (d_var (pe_var (i := 2) rfl (.inl rfl))))))))))
theorem w_is_within {P : Program} {w : World} {K : PySem.W.Frag} {mg : Str → Option Value} {base : Heap} (C : Cn K mg) (A : DefAt K mg "is_within" ["thing", "least", "most"] (topS 2)) (h_is_integer : Sub P w K mg base 1 "is_integer" ["thing"] (spD K 1 V_is_integer)) :
    Sub P w K mg base 2 "is_within" ["thing", "least", "most"] (spD K 3 V_is_within) := DL.subD A sc_is_within (b_is_within C h_is_integer)
theorem sc_check_notes : FnScope ["notes", "note"] ["notes"] (defScope (topS 12)) := ⟨rfl, rfl, rfl, by decide +kernel, rfl, by decide +kernel, by decide +kernel⟩
theorem b_check_notes {P : Program} {w : World} {K : PySem.W.Frag} {mg : Str → Option Value} {base : Heap} (C : Cn K mg) (h_is_tuple_of : Sub P w K mg base 1 "is_tuple_of" ["thing", "size"] (spD K 2 V_is_tuple_of)) (h_is_within : Sub P w K mg base 2 "is_within" ["thing", "least", "most"] (spD K 3 V_is_within)) :
    Bod P w K mg base 2 ["notes", "note"] "check_notes" (topS 12) B_check_notes :=
  fun f cdv A outer s H hr => (ss_cons (s_if ((t_or (t_not (t_val (d_isi C.i_tuple (by rfl) C.n_isinstance (d_var (pe_var (i := 0) rfl (.inl rfl))) (pe_bltn (by rfl) C.n_tuple rfl rfl)))) (t_or1 (t_cmp ho_gt (d_callB call_len_D (by rfl) C.n_len rfl (d_cons (d_var (pe_var (i := 0) rfl (.inl rfl))) d_nil)) (d_gintE (by rfl) C.c_MOST_NOTES) (nomark _))))).pt (ss_one s_bad) ss_nil)
    (ss_one (s_for PassesOwn.never rfl (i_seq (d_var (pe_var (i := 0) rfl (.inl rfl)))) (g_name (i := 1) sc_check_notes.nd rfl (.inl rfl)) (ss_cons (s_if ((t_or (t_not (t_val (d_sub h_is_tuple_of (by decide) hr (by rfl) (d_cons (d_var (pe_var (i := 1) rfl (.inl rfl))) (d_cons d_int d_nil))))) (t_or1 (t_not (t_val (d_sub h_is_within (by decide) hr (by rfl) (d_cons (d_ix ho_ix (fun _ _ => rfl) (d_var (pe_var (i := 1) rfl (.inl rfl))) d_int) (d_cons d_int (d_cons (d_gintE (by rfl) C.c_MOST_WISH) d_nil))))))))).pt (ss_one s_bad) ss_nil)
    (ss_one (s_if (t_not (t_val (d_sub h_is_within (by decide) hr (by rfl) (d_cons (d_ix ho_ix (fun _ _ => rfl) (d_var (pe_var (i := 1) rfl (.inl rfl))) d_int) (d_cons d_int (d_cons (d_gintE (by rfl) C.c_MOST_HEIGHT) d_nil)))))) (ss_one s_bad) ss_nil))))))
theorem w_check_notes {P : Program} {w : World} {K : PySem.W.Frag} {mg : Str → Option Value} {base : Heap} (C : Cn K mg) (A : DefAt K mg "check_notes" ["notes"] (topS 12)) (h_is_tuple_of : Sub P w K mg base 1 "is_tuple_of" ["thing", "size"] (spD K 2 V_is_tuple_of)) (h_is_within : Sub P w K mg base 2 "is_within" ["thing", "least", "most"] (spD K 3 V_is_within)) :
    Sub P w K mg base 3 "check_notes" ["notes"] (spD K 1 V_check_notes) := DL.subD A sc_check_notes (b_check_notes C h_is_tuple_of h_is_within)
theorem sc_are_spots : FnScope ["notes", "thing", "at", "spot"] ["notes", "thing"] (defScope (topS 13)) := ⟨rfl, rfl, rfl, by decide +kernel, rfl, by decide +kernel, by decide +kernel⟩
theorem b_are_spots {P : Program} {w : World} {K : PySem.W.Frag} {mg : Str → Option Value} {base : Heap} (C : Cn K mg) (h_is_integer : Sub P w K mg base 1 "is_integer" ["thing"] (spD K 1 V_is_integer)) :
    Bod P w K mg base 1 ["notes", "thing", "at", "spot"] "are_spots" (topS 13) B_are_spots :=
  fun f cdv A outer s H hr => (ss_cons (s_if ((t_or (t_not (t_val (d_isi C.i_tuple (by rfl) C.n_isinstance (d_var (pe_var (i := 1) rfl (.inr (.inl rfl)))) (pe_bltn (by rfl) C.n_tuple rfl rfl)))) (t_or1 (t_cmp ho_ne (d_callB call_len_D (by rfl) C.n_len rfl (d_cons (d_var (pe_var (i := 1) rfl (.inr (.inl rfl)))) d_nil)) (d_callB call_len_D (by rfl) C.n_len rfl (d_cons (d_var (pe_var (i := 0) rfl (.inr (.inl rfl)))) d_nil)) (nomark _))))).pt (ss_one (s_ret d_bl)) ss_nil)
    (ss_cons (s_if (t_not (t_val (d_callB (call_all_D rfl) (by rfl) C.n_all rfl (d_cons (d_comp (own := [("spot", 3)]) (vs := [3]) rfl sc_are_spots.nd (i_seq (d_var (pe_var (i := 1) rfl (.inr (.inl rfl))))) (blkOk_by (N := ["notes", "thing", "at", "spot"]) (sc := defScope (topS 13)) (by decide +kernel)) (by decide) (fun _ _ _ _ _ => (g_name (i := 3) sc_are_spots.nd rfl (by first | exact .inl rfl | exact .inr rfl))) (fun _ _ _ _ _ => t_yes) (fun _ _ _ _ _ => (d_and (d_sub h_is_integer (by decide) hr (by rfl) (d_cons (d_var (pe_var (i := 3) rfl (by first | exact .inl rfl | exact .inr (.inl rfl) | exact .inr (.inr rfl)))) d_nil)) (d_one (d_cmp ho_ge (d_var (pe_var (i := 3) rfl (by first | exact .inl rfl | exact .inr (.inl rfl) | exact .inr (.inr rfl)))) d_int (nomark _)))))) d_nil)))) (ss_one (s_ret d_bl)) ss_nil)
    (ss_one (s_ret (d_callB (call_all_D rfl) (by rfl) C.n_all rfl (d_cons (d_comp (own := [("at", 2)]) (vs := [2]) rfl sc_are_spots.nd (i_range1 (by rfl) C.n_range (d_bin ho_sub (d_callB call_len_D (by rfl) C.n_len rfl (d_cons (d_var (pe_var (i := 1) rfl (.inr (.inl rfl)))) d_nil)) d_int)) (blkOk_by (N := ["notes", "thing", "at", "spot"]) (sc := defScope (topS 13)) (by decide +kernel)) (by decide) (fun _ _ _ _ _ => (g_name (i := 2) sc_are_spots.nd rfl (by first | exact .inl rfl | exact .inr rfl))) (fun _ _ _ _ _ => t_yes) (fun _ _ _ _ _ => (d_cmp ho_le (d_bin ho_add (d_ix ho_ix (fun _ _ => rfl) (d_var (pe_var (i := 1) rfl (by first | exact .inl rfl | exact .inr (.inl rfl) | exact .inr (.inr rfl)))) (d_var (pe_var (i := 2) rfl (by first | exact .inl rfl | exact .inr (.inl rfl) | exact .inr (.inr rfl))))) (d_ix ho_ix (fun _ _ => rfl) (d_ix ho_ix (fun _ _ => rfl) (d_var (pe_var (i := 0) rfl (by first | exact .inl rfl | exact .inr (.inl rfl) | exact .inr (.inr rfl)))) (d_var (pe_var (i := 2) rfl (by first | exact .inl rfl | exact .inr (.inl rfl) | exact .inr (.inr rfl))))) d_int)) (d_ix ho_ix (fun _ _ => rfl) (d_var (pe_var (i := 1) rfl (by first | exact .inl rfl | exact .inr (.inl rfl) | exact .inr (.inr rfl)))) (d_bin ho_add (d_var (pe_var (i := 2) rfl (by first | exact .inl rfl | exact .inr (.inl rfl) | exact .inr (.inr rfl)))) d_int)) (nomark _)))) d_nil))))))
theorem w_are_spots {P : Program} {w : World} {K : PySem.W.Frag} {mg : Str → Option Value} {base : Heap} (C : Cn K mg) (A : DefAt K mg "are_spots" ["notes", "thing"] (topS 13)) (h_is_integer : Sub P w K mg base 1 "is_integer" ["thing"] (spD K 1 V_is_integer)) :
    Sub P w K mg base 2 "are_spots" ["notes", "thing"] (spD K 2 V_are_spots) := DL.subD A sc_are_spots (b_are_spots C h_is_integer)
theorem sc_raw_off : FnScope ["notes", "spots", "note", "spot"] ["notes", "spots"] (defScope (topS 15)) := ⟨rfl, rfl, rfl, by decide +kernel, rfl, by decide +kernel, by decide +kernel⟩
theorem b_raw_off {P : Program} {w : World} {K : PySem.W.Frag} {mg : Str → Option Value} {base : Heap} (C : Cn K mg)  :
    Bod P w K mg base 0 ["notes", "spots", "note", "spot"] "raw_off" (topS 15) B_raw_off :=
  fun f cdv A outer s H hr => (ss_one (s_ret (d_callB (call_max_D rfl) (by rfl) C.n_max rfl (d_cons (d_bin ho_add (d_lst (d_cons d_int d_nil)) (d_comp (own := [("note", 2), ("spot", 3)]) (vs := [2, 3]) rfl sc_raw_off.nd (i_zip2 (by rfl) C.n_zip (d_cons (d_var (pe_var (i := 0) rfl (.inl rfl))) (d_cons (d_var (pe_var (i := 1) rfl (.inl rfl))) d_nil))) (blkOk_by (N := ["notes", "spots", "note", "spot"]) (sc := defScope (topS 15)) (by decide +kernel)) (by decide) (fun _ _ _ _ _ => (g_tup rfl (gs_cons (g_name (i := 2) sc_raw_off.nd rfl (by first | exact .inl rfl | exact .inr rfl)) (gs_cons (g_name (i := 3) sc_raw_off.nd rfl (by first | exact .inl rfl | exact .inr rfl)) gs_nil)))) (fun _ _ _ _ _ => t_yes) (fun _ _ _ _ _ => (d_callB call_abs_D (by rfl) C.n_abs rfl (d_cons (d_bin ho_sub (d_var (pe_var (i := 3) rfl (by first | exact .inl rfl | exact .inr (.inl rfl) | exact .inr (.inr rfl)))) (d_ix ho_ix (fun _ _ => rfl) (d_var (pe_var (i := 2) rfl (by first | exact .inl rfl | exact .inr (.inl rfl) | exact .inr (.inr rfl)))) d_int)) d_nil))))) d_nil))))
theorem w_raw_off {P : Program} {w : World} {K : PySem.W.Frag} {mg : Str → Option Value} {base : Heap} (C : Cn K mg) (A : DefAt K mg "raw_off" ["notes", "spots"] (topS 15))  :
    Sub P w K mg base 1 "raw_off" ["notes", "spots"] (spD K 2 V_raw_off) := DL.subD A sc_raw_off (b_raw_off C)
theorem sc_off : FnScope ["notes", "spots"] ["notes", "spots"] (defScope (topS 16)) := ⟨rfl, rfl, rfl, by decide +kernel, rfl, by decide +kernel, by decide +kernel⟩
theorem b_off {P : Program} {w : World} {K : PySem.W.Frag} {mg : Str → Option Value} {base : Heap} (C : Cn K mg) (h_check_notes : Sub P w K mg base 3 "check_notes" ["notes"] (spD K 1 V_check_notes)) (h_are_spots : Sub P w K mg base 2 "are_spots" ["notes", "thing"] (spD K 2 V_are_spots)) (h_raw_off : Sub P w K mg base 1 "raw_off" ["notes", "spots"] (spD K 2 V_raw_off)) :
    Bod P w K mg base 3 ["notes", "spots"] "off" (topS 16) B_off :=
  fun f cdv A outer s H hr => (ss_cons (s_expr (d_sub h_check_notes (by decide) hr (by rfl) (d_cons (d_var (pe_var (i := 0) rfl (.inl rfl))) d_nil)))
    (ss_cons (s_if (t_not (t_val (d_sub h_are_spots (by decide) hr (by rfl) (d_cons (d_var (pe_var (i := 0) rfl (.inl rfl))) (d_cons (d_var (pe_var (i := 1) rfl (.inl rfl))) d_nil))))) (ss_one s_bad) ss_nil)
    (ss_one (s_ret (d_sub h_raw_off (by decide) hr (by rfl) (d_cons (d_var (pe_var (i := 0) rfl (.inl rfl))) (d_cons (d_var (pe_var (i := 1) rfl (.inl rfl))) d_nil)))))))
theorem w_off {P : Program} {w : World} {K : PySem.W.Frag} {mg : Str → Option Value} {base : Heap} (C : Cn K mg) (A : DefAt K mg "off" ["notes", "spots"] (topS 16)) (h_check_notes : Sub P w K mg base 3 "check_notes" ["notes"] (spD K 1 V_check_notes)) (h_are_spots : Sub P w K mg base 2 "are_spots" ["notes", "thing"] (spD K 2 V_are_spots)) (h_raw_off : Sub P w K mg base 1 "raw_off" ["notes", "spots"] (spD K 2 V_raw_off)) :
    Sub P w K mg base 4 "off" ["notes", "spots"] (spD K 2 V_off) := DL.subD A sc_off (b_off C h_check_notes h_are_spots h_raw_off)
theorem sc_heights_ahead : FnScope ["notes", "found", "total", "wish", "height"] ["notes"] (defScope (topS 17)) := ⟨rfl, rfl, rfl, by decide +kernel, rfl, by decide +kernel, by decide +kernel⟩
theorem b_heights_ahead {P : Program} {w : World} {K : PySem.W.Frag} {mg : Str → Option Value} {base : Heap} (C : Cn K mg)  :
    Bod P w K mg base 0 ["notes", "found", "total", "wish", "height"] "heights_ahead" (topS 17) B_heights_ahead :=
  fun f cdv A outer s H hr => (ss_cons (s_par (i := 1) (j := 2) rfl sc_heights_ahead.nd rfl rfl (by decide) rfl rfl (d_cons (d_lst d_nil) (d_cons d_int d_nil)) (by rfl))
    (ss_cons (s_for PassesOwn.never rfl (i_seq (d_var (pe_var (i := 0) rfl (.inl rfl)))) (g_tup rfl (gs_cons (g_name (i := 3) sc_heights_ahead.nd rfl (.inl rfl)) (gs_cons (g_name (i := 4) sc_heights_ahead.nd rfl (.inl rfl)) gs_nil))) (ss_cons (s_expr (d_meth PySem.F.slot_list_append PySem.F.type_list_append mt_append m_append (pe_var (i := 1) rfl (.inl rfl)) (d_cons (d_var (pe_var (i := 2) rfl (.inl rfl))) d_nil)))
    (ss_one (s_aug (i := 2) sc_heights_ahead.nd rfl (.inl rfl) (d_var (pe_var (i := 4) rfl (.inl rfl))) ip_add))))
    (ss_one (s_ret (d_var (pe_var (i := 1) rfl (.inl rfl)))))))
theorem w_heights_ahead {P : Program} {w : World} {K : PySem.W.Frag} {mg : Str → Option Value} {base : Heap} (C : Cn K mg) (A : DefAt K mg "heights_ahead" ["notes"] (topS 17))  :
    Sub P w K mg base 1 "heights_ahead" ["notes"] (spD K 1 V_heights_ahead) := DL.subD A sc_heights_ahead (b_heights_ahead C)
theorem sc_top_excess : FnScope ["notes", "last"] ["notes", "last"] (defScope (topS 19)) := ⟨rfl, rfl, rfl, by decide +kernel, rfl, by decide +kernel, by decide +kernel⟩
theorem b_top_excess {P : Program} {w : World} {K : PySem.W.Frag} {mg : Str → Option Value} {base : Heap} (C : Cn K mg) (h_heights_ahead : Sub P w K mg base 1 "heights_ahead" ["notes"] (spD K 1 V_heights_ahead)) :
    Bod P w K mg base 1 ["notes", "last"] "top_excess" (topS 19) B_top_excess :=
  fun f cdv A outer s H hr => (ss_one (s_ret (d_bin ho_sub (d_ix ho_ix (fun _ _ => rfl) (d_sub h_heights_ahead (by decide) hr (by rfl) (d_cons (d_var (pe_var (i := 0) rfl (.inl rfl))) d_nil)) (d_var (pe_var (i := 1) rfl (.inl rfl)))) (d_ix ho_ix (fun _ _ => rfl) (d_ix ho_ix (fun _ _ => rfl) (d_var (pe_var (i := 0) rfl (.inl rfl))) (d_var (pe_var (i := 1) rfl (.inl rfl)))) d_int))))
theorem w_top_excess {P : Program} {w : World} {K : PySem.W.Frag} {mg : Str → Option Value} {base : Heap} (C : Cn K mg) (A : DefAt K mg "top_excess" ["notes", "last"] (topS 19)) (h_heights_ahead : Sub P w K mg base 1 "heights_ahead" ["notes"] (spD K 1 V_heights_ahead)) :
    Sub P w K mg base 2 "top_excess" ["notes", "last"] (spD K 2 V_top_excess) := DL.subD A sc_top_excess (b_top_excess C h_heights_ahead)
theorem sc_excess_of : FnScope ["notes", "first", "last", "ahead"] ["notes", "first", "last"] (defScope (topS 18)) := ⟨rfl, rfl, rfl, by decide +kernel, rfl, by decide +kernel, by decide +kernel⟩
theorem b_excess_of {P : Program} {w : World} {K : PySem.W.Frag} {mg : Str → Option Value} {base : Heap} (C : Cn K mg) (h_heights_ahead : Sub P w K mg base 1 "heights_ahead" ["notes"] (spD K 1 V_heights_ahead)) :
    Bod P w K mg base 1 ["notes", "first", "last", "ahead"] "excess_of" (topS 18) B_excess_of :=
  fun f cdv A outer s H hr => (ss_cons (s_set (i := 3) sc_excess_of.nd rfl (.inl rfl) (d_sub h_heights_ahead (by decide) hr (by rfl) (d_cons (d_var (pe_var (i := 0) rfl (.inl rfl))) d_nil)))
    (ss_one (s_ret (d_bin ho_sub (d_bin ho_sub (d_bin ho_add (d_ix ho_ix (fun _ _ => rfl) (d_ix ho_ix (fun _ _ => rfl) (d_var (pe_var (i := 0) rfl (.inl rfl))) (d_var (pe_var (i := 1) rfl (.inl rfl)))) d_int) (d_ix ho_ix (fun _ _ => rfl) (d_var (pe_var (i := 3) rfl (.inl rfl))) (d_var (pe_var (i := 2) rfl (.inl rfl))))) (d_ix ho_ix (fun _ _ => rfl) (d_var (pe_var (i := 3) rfl (.inl rfl))) (d_var (pe_var (i := 1) rfl (.inl rfl))))) (d_ix ho_ix (fun _ _ => rfl) (d_ix ho_ix (fun _ _ => rfl) (d_var (pe_var (i := 0) rfl (.inl rfl))) (d_var (pe_var (i := 2) rfl (.inl rfl)))) d_int)))))
theorem w_excess_of {P : Program} {w : World} {K : PySem.W.Frag} {mg : Str → Option Value} {base : Heap} (C : Cn K mg) (A : DefAt K mg "excess_of" ["notes", "first", "last"] (topS 18)) (h_heights_ahead : Sub P w K mg base 1 "heights_ahead" ["notes"] (spD K 1 V_heights_ahead)) :
    Sub P w K mg base 2 "excess_of" ["notes", "first", "last"] (spD K 3 V_excess_of) := DL.subD A sc_excess_of (b_excess_of C h_heights_ahead)
theorem sc_raw_least : FnScope ["notes", "found", "last", "first"] ["notes"] (defScope (topS 20)) := ⟨rfl, rfl, rfl, by decide +kernel, rfl, by decide +kernel, by decide +kernel⟩
theorem b_raw_least {P : Program} {w : World} {K : PySem.W.Frag} {mg : Str → Option Value} {base : Heap} (C : Cn K mg) (h_top_excess : Sub P w K mg base 2 "top_excess" ["notes", "last"] (spD K 2 V_top_excess)) (h_excess_of : Sub P w K mg base 2 "excess_of" ["notes", "first", "last"] (spD K 3 V_excess_of)) :
    Bod P w K mg base 2 ["notes", "found", "last", "first"] "raw_least" (topS 20) B_raw_least :=
  fun f cdv A outer s H hr => (ss_cons (s_set (i := 1) sc_raw_least.nd rfl (.inl rfl) (d_lst (d_cons d_int d_nil)))
    (ss_cons (s_for PassesOwn.never rfl (i_range1 (by rfl) C.n_range (d_callB call_len_D (by rfl) C.n_len rfl (d_cons (d_var (pe_var (i := 0) rfl (.inl rfl))) d_nil))) (g_name (i := 2) sc_raw_least.nd rfl (.inl rfl)) (ss_cons (s_expr (d_meth PySem.F.slot_list_append PySem.F.type_list_append mt_append m_append (pe_var (i := 1) rfl (.inl rfl)) (d_cons (d_sub h_top_excess (by decide) hr (by rfl) (d_cons (d_var (pe_var (i := 0) rfl (.inl rfl))) (d_cons (d_var (pe_var (i := 2) rfl (.inl rfl))) d_nil))) d_nil)))
    (ss_one (s_for PassesOwn.never rfl (i_range1 (by rfl) C.n_range (d_var (pe_var (i := 2) rfl (.inl rfl)))) (g_name (i := 3) sc_raw_least.nd rfl (.inl rfl)) (ss_one (s_expr (d_meth PySem.F.slot_list_append PySem.F.type_list_append mt_append m_append (pe_var (i := 1) rfl (.inl rfl)) (d_cons (d_bin ho_div (d_bin ho_add (d_sub h_excess_of (by decide) hr (by rfl) (d_cons (d_var (pe_var (i := 0) rfl (.inl rfl))) (d_cons (d_var (pe_var (i := 3) rfl (.inl rfl))) (d_cons (d_var (pe_var (i := 2) rfl (.inl rfl))) d_nil)))) d_int) d_int) d_nil))))))))
    (ss_one (s_ret (d_callB (call_max_D rfl) (by rfl) C.n_max rfl (d_cons (d_var (pe_var (i := 1) rfl (.inl rfl))) d_nil))))))
theorem w_raw_least {P : Program} {w : World} {K : PySem.W.Frag} {mg : Str → Option Value} {base : Heap} (C : Cn K mg) (A : DefAt K mg "raw_least" ["notes"] (topS 20)) (h_top_excess : Sub P w K mg base 2 "top_excess" ["notes", "last"] (spD K 2 V_top_excess)) (h_excess_of : Sub P w K mg base 2 "excess_of" ["notes", "first", "last"] (spD K 3 V_excess_of)) :
    Sub P w K mg base 3 "raw_least" ["notes"] (spD K 1 V_raw_least) := DL.subD A sc_raw_least (b_raw_least C h_top_excess h_excess_of)
theorem sc_spots : FnScope ["notes", "least", "found", "end", "wish", "height"] ["notes"] (defScope (topS 22)) := ⟨rfl, rfl, rfl, by decide +kernel, rfl, by decide +kernel, by decide +kernel⟩
theorem b_spots {P : Program} {w : World} {K : PySem.W.Frag} {mg : Str → Option Value} {base : Heap} (C : Cn K mg) (h_check_notes : Sub P w K mg base 3 "check_notes" ["notes"] (spD K 1 V_check_notes)) (h_raw_least : Sub P w K mg base 3 "raw_least" ["notes"] (spD K 1 V_raw_least)) :
    Bod P w K mg base 3 ["notes", "least", "found", "end", "wish", "height"] "spots" (topS 22) B_spots :=
  fun f cdv A outer s H hr => (ss_cons (s_expr (d_sub h_check_notes (by decide) hr (by rfl) (d_cons (d_var (pe_var (i := 0) rfl (.inl rfl))) d_nil)))
    (ss_cons (s_par3 (i := 1) (j := 2) (l := 3) rfl sc_spots.nd rfl rfl rfl (by decide) (by decide) (by decide) rfl rfl rfl (d_cons (d_sub h_raw_least (by decide) hr (by rfl) (d_cons (d_var (pe_var (i := 0) rfl (.inl rfl))) d_nil)) (d_cons (d_lst d_nil) (d_cons d_int d_nil))) (by rfl))
    (ss_cons (s_for PassesOwn.never rfl (i_seq (d_var (pe_var (i := 0) rfl (.inl rfl)))) (g_tup rfl (gs_cons (g_name (i := 4) sc_spots.nd rfl (.inl rfl)) (gs_cons (g_name (i := 5) sc_spots.nd rfl (.inl rfl)) gs_nil))) (ss_cons (s_expr (d_meth PySem.F.slot_list_append PySem.F.type_list_append mt_append m_append (pe_var (i := 2) rfl (.inl rfl)) (d_cons (d_callB (call_max_D rfl) (by rfl) C.n_max rfl (d_cons (d_var (pe_var (i := 3) rfl (.inl rfl))) (d_cons (d_bin ho_sub (d_var (pe_var (i := 4) rfl (.inl rfl))) (d_var (pe_var (i := 1) rfl (.inl rfl)))) d_nil))) d_nil)))
    (ss_one (s_set (i := 3) sc_spots.nd rfl (.inl rfl) (d_bin ho_add (d_ix ho_ix (fun _ _ => rfl) (d_var (pe_var (i := 2) rfl (.inl rfl))) (d_un ho_neg d_int)) (d_var (pe_var (i := 5) rfl (.inl rfl))))))))
    (ss_one (s_ret (d_callTy call_tuple_D (by rfl) C.n_tuple rfl (d_cons (d_var (pe_var (i := 2) rfl (.inl rfl))) d_nil)))))))
theorem w_spots {P : Program} {w : World} {K : PySem.W.Frag} {mg : Str → Option Value} {base : Heap} (C : Cn K mg) (A : DefAt K mg "spots" ["notes"] (topS 22)) (h_check_notes : Sub P w K mg base 3 "check_notes" ["notes"] (spD K 1 V_check_notes)) (h_raw_least : Sub P w K mg base 3 "raw_least" ["notes"] (spD K 1 V_raw_least)) :
    Sub P w K mg base 4 "spots" ["notes"] (spD K 1 V_spots) := DL.subD A sc_spots (b_spots C h_check_notes h_raw_least)
theorem sc_least_off : FnScope ["notes"] ["notes"] (defScope (topS 21)) := ⟨rfl, rfl, rfl, by decide +kernel, rfl, by decide +kernel, by decide +kernel⟩
theorem b_least_off {P : Program} {w : World} {K : PySem.W.Frag} {mg : Str → Option Value} {base : Heap} (C : Cn K mg) (h_check_notes : Sub P w K mg base 3 "check_notes" ["notes"] (spD K 1 V_check_notes)) (h_raw_least : Sub P w K mg base 3 "raw_least" ["notes"] (spD K 1 V_raw_least)) :
    Bod P w K mg base 3 ["notes"] "least_off" (topS 21) B_least_off :=
  fun f cdv A outer s H hr => (ss_cons (s_expr (d_sub h_check_notes (by decide) hr (by rfl) (d_cons (d_var (pe_var (i := 0) rfl (.inl rfl))) d_nil)))
    (ss_one (s_ret (d_sub h_raw_least (by decide) hr (by rfl) (d_cons (d_var (pe_var (i := 0) rfl (.inl rfl))) d_nil)))))
theorem w_least_off {P : Program} {w : World} {K : PySem.W.Frag} {mg : Str → Option Value} {base : Heap} (C : Cn K mg) (A : DefAt K mg "least_off" ["notes"] (topS 21)) (h_check_notes : Sub P w K mg base 3 "check_notes" ["notes"] (spD K 1 V_check_notes)) (h_raw_least : Sub P w K mg base 3 "raw_least" ["notes"] (spD K 1 V_raw_least)) :
    Sub P w K mg base 4 "least_off" ["notes"] (spD K 1 V_least_off) := DL.subD A sc_least_off (b_least_off C h_check_notes h_raw_least)
theorem sc_is_spots : FnScope ["notes", "thing"] ["notes", "thing"] (defScope (topS 14)) := ⟨rfl, rfl, rfl, by decide +kernel, rfl, by decide +kernel, by decide +kernel⟩
theorem b_is_spots {P : Program} {w : World} {K : PySem.W.Frag} {mg : Str → Option Value} {base : Heap} (C : Cn K mg) (h_check_notes : Sub P w K mg base 3 "check_notes" ["notes"] (spD K 1 V_check_notes)) (h_are_spots : Sub P w K mg base 2 "are_spots" ["notes", "thing"] (spD K 2 V_are_spots)) :
    Bod P w K mg base 3 ["notes", "thing"] "is_spots" (topS 14) B_is_spots :=
  fun f cdv A outer s H hr => (ss_cons (s_expr (d_sub h_check_notes (by decide) hr (by rfl) (d_cons (d_var (pe_var (i := 0) rfl (.inl rfl))) d_nil)))
    (ss_one (s_ret (d_sub h_are_spots (by decide) hr (by rfl) (d_cons (d_var (pe_var (i := 0) rfl (.inl rfl))) (d_cons (d_var (pe_var (i := 1) rfl (.inl rfl))) d_nil))))))
theorem w_is_spots {P : Program} {w : World} {K : PySem.W.Frag} {mg : Str → Option Value} {base : Heap} (C : Cn K mg) (A : DefAt K mg "is_spots" ["notes", "thing"] (topS 14)) (h_check_notes : Sub P w K mg base 3 "check_notes" ["notes"] (spD K 1 V_check_notes)) (h_are_spots : Sub P w K mg base 2 "are_spots" ["notes", "thing"] (spD K 2 V_are_spots)) :
    Sub P w K mg base 4 "is_spots" ["notes", "thing"] (spD K 2 V_is_spots) := DL.subD A sc_is_spots (b_is_spots C h_check_notes h_are_spots)
theorem sc_is_press : FnScope ["notes", "least", "first", "last"] ["notes", "least", "first", "last"] (defScope (topS 23)) := ⟨rfl, rfl, rfl, by decide +kernel, rfl, by decide +kernel, by decide +kernel⟩
theorem b_is_press {P : Program} {w : World} {K : PySem.W.Frag} {mg : Str → Option Value} {base : Heap} (C : Cn K mg) (h_top_excess : Sub P w K mg base 2 "top_excess" ["notes", "last"] (spD K 2 V_top_excess)) (h_excess_of : Sub P w K mg base 2 "excess_of" ["notes", "first", "last"] (spD K 3 V_excess_of)) :
    Bod P w K mg base 2 ["notes", "least", "first", "last"] "is_press" (topS 23) B_is_press :=
  fun f cdv A outer s H hr => (ss_cons (s_if (t_cmp ho_is (d_var (pe_var (i := 2) rfl (.inl rfl))) d_non (nomark _)) (ss_one (s_ret (d_cmp ho_eq (d_sub h_top_excess (by decide) hr (by rfl) (d_cons (d_var (pe_var (i := 0) rfl (.inl rfl))) (d_cons (d_var (pe_var (i := 3) rfl (.inl rfl))) d_nil))) (d_var (pe_var (i := 1) rfl (.inl rfl))) (nomark _)))) ss_nil)
    (ss_one (s_ret (d_and (d_cmp ho_le (d_var (pe_var (i := 2) rfl (.inl rfl))) (d_var (pe_var (i := 3) rfl (.inl rfl))) (nomark _)) (d_one (d_cmp ho_in (d_sub h_excess_of (by decide) hr (by rfl) (d_cons (d_var (pe_var (i := 0) rfl (.inl rfl))) (d_cons (d_var (pe_var (i := 2) rfl (.inl rfl))) (d_cons (d_var (pe_var (i := 3) rfl (.inl rfl))) d_nil)))) (d_tup (d_cons (d_bin ho_mul d_int (d_var (pe_var (i := 1) rfl (.inl rfl)))) (d_cons (d_bin ho_sub (d_bin ho_mul d_int (d_var (pe_var (i := 1) rfl (.inl rfl)))) d_int) d_nil))) (by with_unfolding_all rfl)))))))
theorem w_is_press {P : Program} {w : World} {K : PySem.W.Frag} {mg : Str → Option Value} {base : Heap} (C : Cn K mg) (A : DefAt K mg "is_press" ["notes", "least", "first", "last"] (topS 23)) (h_top_excess : Sub P w K mg base 2 "top_excess" ["notes", "last"] (spD K 2 V_top_excess)) (h_excess_of : Sub P w K mg base 2 "excess_of" ["notes", "first", "last"] (spD K 3 V_excess_of)) :
    Sub P w K mg base 3 "is_press" ["notes", "least", "first", "last"] (spD K 4 V_is_press) := DL.subD A sc_is_press (b_is_press C h_top_excess h_excess_of)
theorem sc_pressing : FnScope ["notes", "least", "last", "first"] ["notes"] (defScope (topS 24)) := ⟨rfl, rfl, rfl, by decide +kernel, rfl, by decide +kernel, by decide +kernel⟩
theorem b_pressing {P : Program} {w : World} {K : PySem.W.Frag} {mg : Str → Option Value} {base : Heap} (C : Cn K mg) (h_check_notes : Sub P w K mg base 3 "check_notes" ["notes"] (spD K 1 V_check_notes)) (h_raw_least : Sub P w K mg base 3 "raw_least" ["notes"] (spD K 1 V_raw_least)) (h_is_press : Sub P w K mg base 3 "is_press" ["notes", "least", "first", "last"] (spD K 4 V_is_press)) :
    Bod P w K mg base 3 ["notes", "least", "last", "first"] "pressing" (topS 24) B_pressing :=
  fun f cdv A outer s H hr => (ss_cons (s_expr (d_sub h_check_notes (by decide) hr (by rfl) (d_cons (d_var (pe_var (i := 0) rfl (.inl rfl))) d_nil)))
    (ss_cons (s_set (i := 1) sc_pressing.nd rfl (.inl rfl) (d_sub h_raw_least (by decide) hr (by rfl) (d_cons (d_var (pe_var (i := 0) rfl (.inl rfl))) d_nil)))
    (ss_cons (s_if (t_cmp ho_eq (d_var (pe_var (i := 1) rfl (.inl rfl))) d_int (nomark _)) (ss_one (s_ret d_non)) ss_nil)
    (ss_cons (s_for PassesOwn.never rfl (i_range1 (by rfl) C.n_range (d_callB call_len_D (by rfl) C.n_len rfl (d_cons (d_var (pe_var (i := 0) rfl (.inl rfl))) d_nil))) (g_name (i := 2) sc_pressing.nd rfl (.inl rfl)) (ss_one (s_for PassesOwn.never rfl (i_seq (d_bin ho_add (d_lst (d_cons d_non d_nil)) (d_lr1 rfl (by rfl) C.n_list (by rfl) C.n_range (d_var (pe_var (i := 2) rfl (.inl rfl)))))) (g_name (i := 3) sc_pressing.nd rfl (.inl rfl)) (ss_one (s_if (t_val (d_sub h_is_press (by decide) hr (by rfl) (d_cons (d_var (pe_var (i := 0) rfl (.inl rfl))) (d_cons (d_var (pe_var (i := 1) rfl (.inl rfl))) (d_cons (d_var (pe_var (i := 3) rfl (.inl rfl))) (d_cons (d_var (pe_var (i := 2) rfl (.inl rfl))) d_nil)))))) (ss_one (s_ret (d_tup (d_cons (d_var (pe_var (i := 3) rfl (.inl rfl))) (d_cons (d_var (pe_var (i := 2) rfl (.inl rfl))) d_nil))))) ss_nil)))))
    (ss_one (s_ret d_non))))))
theorem w_pressing {P : Program} {w : World} {K : PySem.W.Frag} {mg : Str → Option Value} {base : Heap} (C : Cn K mg) (A : DefAt K mg "pressing" ["notes"] (topS 24)) (h_check_notes : Sub P w K mg base 3 "check_notes" ["notes"] (spD K 1 V_check_notes)) (h_raw_least : Sub P w K mg base 3 "raw_least" ["notes"] (spD K 1 V_raw_least)) (h_is_press : Sub P w K mg base 3 "is_press" ["notes", "least", "first", "last"] (spD K 4 V_is_press)) :
    Sub P w K mg base 4 "pressing" ["notes"] (spD K 1 V_pressing) := DL.subD A sc_pressing (b_pressing C h_check_notes h_raw_least h_is_press)
theorem sc__law_presses : FnScope ["notes", "least", "thing", "first", "last", "ahead"] ["notes", "least", "thing"] (defScope (topS 41)) := ⟨rfl, rfl, rfl, by decide +kernel, rfl, by decide +kernel, by decide +kernel⟩
theorem b__law_presses {P : Program} {w : World} {K : PySem.W.Frag} {mg : Str → Option Value} {base : Heap} (C : Cn K mg) (h__law_ahead : Sub P w K mg base 1 "_law_ahead" ["notes"] (spD K 1 V__law_ahead)) (h__law_over : Sub P w K mg base 1 "_law_over" ["notes", "ahead", "first", "last"] (spD K 4 V__law_over)) :
    Bod P w K mg base 1 ["notes", "least", "thing", "first", "last", "ahead"] "_law_presses" (topS 41) B__law_presses :=
  fun f cdv A outer s H hr => (ss_cons (s_if ((t_or (t_not (t_val (d_isi C.i_tuple (by rfl) C.n_isinstance (d_var (pe_var (i := 2) rfl (.inl rfl))) (pe_bltn (by rfl) C.n_tuple rfl rfl)))) (t_or1 (t_cmp ho_ne (d_callB call_len_D (by rfl) C.n_len rfl (d_cons (d_var (pe_var (i := 2) rfl (.inl rfl))) d_nil)) d_int (nomark _))))).pt (ss_one (s_ret d_bl)) ss_nil)
    (ss_cons (s_asg (d_var (pe_var (i := 2) rfl (.inl rfl))) (g_tup rfl (gs_cons (g_name (i := 3) sc__law_presses.nd rfl (.inl rfl)) (gs_cons (g_name (i := 4) sc__law_presses.nd rfl (.inl rfl)) gs_nil))))
    (ss_cons (s_set (i := 5) sc__law_presses.nd rfl (.inl rfl) (d_sub h__law_ahead (by decide) hr (by rfl) (d_cons (d_var (pe_var (i := 0) rfl (.inl rfl))) d_nil)))
    (ss_cons (s_if (t_cmp ho_is (d_var (pe_var (i := 3) rfl (.inl rfl))) d_non (nomark _)) (ss_one (s_ret (d_and (d_chn d_int (ch_link ho_le (d_var (pe_var (i := 4) rfl (.inl rfl))) (ch_last ho_lt (d_callB call_len_D (by rfl) C.n_len rfl (d_cons (d_var (pe_var (i := 0) rfl (.inl rfl))) d_nil))))) (d_one (d_cmp ho_eq (d_bin ho_sub (d_ix ho_ix (fun _ _ => rfl) (d_var (pe_var (i := 5) rfl (.inl rfl))) (d_var (pe_var (i := 4) rfl (.inl rfl)))) (d_ix ho_ix (fun _ _ => rfl) (d_ix ho_ix (fun _ _ => rfl) (d_var (pe_var (i := 0) rfl (.inl rfl))) (d_var (pe_var (i := 4) rfl (.inl rfl)))) d_int)) (d_var (pe_var (i := 1) rfl (.inl rfl))) (nomark _)))))) ss_nil)
    (ss_cons (s_if (t_not (t_chn d_int (ch_link ho_le (d_var (pe_var (i := 3) rfl (.inl rfl))) (ch_link ho_lt (d_var (pe_var (i := 4) rfl (.inl rfl))) (ch_last ho_lt (d_callB call_len_D (by rfl) C.n_len rfl (d_cons (d_var (pe_var (i := 0) rfl (.inl rfl))) d_nil))))))) (ss_one (s_ret d_bl)) ss_nil)
    (ss_one (s_ret (d_cmp ho_in (d_sub h__law_over (by decide) hr (by rfl) (d_cons (d_var (pe_var (i := 0) rfl (.inl rfl))) (d_cons (d_var (pe_var (i := 5) rfl (.inl rfl))) (d_cons (d_var (pe_var (i := 3) rfl (.inl rfl))) (d_cons (d_var (pe_var (i := 4) rfl (.inl rfl))) d_nil))))) (d_tup (d_cons (d_bin ho_mul d_int (d_var (pe_var (i := 1) rfl (.inl rfl)))) (d_cons (d_bin ho_sub (d_bin ho_mul d_int (d_var (pe_var (i := 1) rfl (.inl rfl)))) d_int) d_nil))) (by with_unfolding_all rfl)))))))))
theorem w__law_presses {P : Program} {w : World} {K : PySem.W.Frag} {mg : Str → Option Value} {base : Heap} (C : Cn K mg) (A : DefAt K mg "_law_presses" ["notes", "least", "thing"] (topS 41)) (h__law_ahead : Sub P w K mg base 1 "_law_ahead" ["notes"] (spD K 1 V__law_ahead)) (h__law_over : Sub P w K mg base 1 "_law_over" ["notes", "ahead", "first", "last"] (spD K 4 V__law_over)) :
    Sub P w K mg base 2 "_law_presses" ["notes", "least", "thing"] (spD K 3 V__law_presses) := DL.subD A sc__law_presses (b__law_presses C h__law_ahead h__law_over)
theorem sc_is_pressing : FnScope ["notes", "thing", "least"] ["notes", "thing"] (defScope (topS 25)) := ⟨rfl, rfl, rfl, by decide +kernel, rfl, by decide +kernel, by decide +kernel⟩
theorem b_is_pressing {P : Program} {w : World} {K : PySem.W.Frag} {mg : Str → Option Value} {base : Heap} (C : Cn K mg) (h_check_notes : Sub P w K mg base 3 "check_notes" ["notes"] (spD K 1 V_check_notes)) (h_raw_least : Sub P w K mg base 3 "raw_least" ["notes"] (spD K 1 V_raw_least)) (h_is_tuple_of : Sub P w K mg base 1 "is_tuple_of" ["thing", "size"] (spD K 2 V_is_tuple_of)) (h_is_within : Sub P w K mg base 2 "is_within" ["thing", "least", "most"] (spD K 3 V_is_within)) (h_is_press : Sub P w K mg base 3 "is_press" ["notes", "least", "first", "last"] (spD K 4 V_is_press)) :
    Bod P w K mg base 3 ["notes", "thing", "least"] "is_pressing" (topS 25) B_is_pressing :=
  fun f cdv A outer s H hr => (ss_cons (s_expr (d_sub h_check_notes (by decide) hr (by rfl) (d_cons (d_var (pe_var (i := 0) rfl (.inl rfl))) d_nil)))
    (ss_cons (s_set (i := 2) sc_is_pressing.nd rfl (.inl rfl) (d_sub h_raw_least (by decide) hr (by rfl) (d_cons (d_var (pe_var (i := 0) rfl (.inl rfl))) d_nil)))
    (ss_cons (s_if (t_cmp ho_eq (d_var (pe_var (i := 2) rfl (.inl rfl))) d_int (nomark _)) (ss_one (s_ret (d_cmp ho_is (d_var (pe_var (i := 1) rfl (.inl rfl))) d_non (nomark _)))) ss_nil)
    (ss_cons (s_if ((t_or (t_not (t_val (d_sub h_is_tuple_of (by decide) hr (by rfl) (d_cons (d_var (pe_var (i := 1) rfl (.inl rfl))) (d_cons d_int d_nil))))) (t_or1 (t_not (t_val (d_sub h_is_within (by decide) hr (by rfl) (d_cons (d_ix ho_ix (fun _ _ => rfl) (d_var (pe_var (i := 1) rfl (.inl rfl))) d_int) (d_cons d_int (d_cons (d_bin ho_sub (d_callB call_len_D (by rfl) C.n_len rfl (d_cons (d_var (pe_var (i := 0) rfl (.inl rfl))) d_nil)) d_int) d_nil))))))))).pt (ss_one (s_ret d_bl)) ss_nil)
    (ss_cons (s_if ((t_and (t_cmp ho_isNot (d_ix ho_ix (fun _ _ => rfl) (d_var (pe_var (i := 1) rfl (.inl rfl))) d_int) d_non (nomark _)) (t_and1 (t_not (t_val (d_sub h_is_within (by decide) hr (by rfl) (d_cons (d_ix ho_ix (fun _ _ => rfl) (d_var (pe_var (i := 1) rfl (.inl rfl))) d_int) (d_cons d_int (d_cons (d_ix ho_ix (fun _ _ => rfl) (d_var (pe_var (i := 1) rfl (.inl rfl))) d_int) d_nil))))))))).pt (ss_one (s_ret d_bl)) ss_nil)
    (ss_one (s_ret (d_sub h_is_press (by decide) hr (by rfl) (d_cons (d_var (pe_var (i := 0) rfl (.inl rfl))) (d_cons (d_var (pe_var (i := 2) rfl (.inl rfl))) (d_cons (d_ix ho_ix (fun _ _ => rfl) (d_var (pe_var (i := 1) rfl (.inl rfl))) d_int) (d_cons (d_ix ho_ix (fun _ _ => rfl) (d_var (pe_var (i := 1) rfl (.inl rfl))) d_int) d_nil))))))))))))
theorem w_is_pressing {P : Program} {w : World} {K : PySem.W.Frag} {mg : Str → Option Value} {base : Heap} (C : Cn K mg) (A : DefAt K mg "is_pressing" ["notes", "thing"] (topS 25)) (h_check_notes : Sub P w K mg base 3 "check_notes" ["notes"] (spD K 1 V_check_notes)) (h_raw_least : Sub P w K mg base 3 "raw_least" ["notes"] (spD K 1 V_raw_least)) (h_is_tuple_of : Sub P w K mg base 1 "is_tuple_of" ["thing", "size"] (spD K 2 V_is_tuple_of)) (h_is_within : Sub P w K mg base 2 "is_within" ["thing", "least", "most"] (spD K 3 V_is_within)) (h_is_press : Sub P w K mg base 3 "is_press" ["notes", "least", "first", "last"] (spD K 4 V_is_press)) :
    Sub P w K mg base 4 "is_pressing" ["notes", "thing"] (spD K 2 V_is_pressing) := DL.subD A sc_is_pressing (b_is_pressing C h_check_notes h_raw_least h_is_tuple_of h_is_within h_is_press)
theorem sc_shifted_wishes : FnScope ["notes", "note", "ahead"] ["notes"] (defScope (topS 26)) := ⟨rfl, rfl, rfl, by decide +kernel, rfl, by decide +kernel, by decide +kernel⟩
theorem b_shifted_wishes {P : Program} {w : World} {K : PySem.W.Frag} {mg : Str → Option Value} {base : Heap} (C : Cn K mg) (h_heights_ahead : Sub P w K mg base 1 "heights_ahead" ["notes"] (spD K 1 V_heights_ahead)) :
    Bod P w K mg base 1 ["notes", "note", "ahead"] "shifted_wishes" (topS 26) B_shifted_wishes :=
  fun f cdv A outer s H hr => (ss_one (s_ret (d_comp (own := [("note", 1), ("ahead", 2)]) (vs := [1, 2]) rfl sc_shifted_wishes.nd (i_zip2 (by rfl) C.n_zip (d_cons (d_var (pe_var (i := 0) rfl (.inl rfl))) (d_cons (d_sub h_heights_ahead (by decide) hr (by rfl) (d_cons (d_var (pe_var (i := 0) rfl (.inl rfl))) d_nil)) d_nil))) (blkOk_by (N := ["notes", "note", "ahead"]) (sc := defScope (topS 26)) (by decide +kernel)) (by decide) (fun _ _ _ _ _ => (g_tup rfl (gs_cons (g_name (i := 1) sc_shifted_wishes.nd rfl (by first | exact .inl rfl | exact .inr rfl)) (gs_cons (g_name (i := 2) sc_shifted_wishes.nd rfl (by first | exact .inl rfl | exact .inr rfl)) gs_nil)))) (fun _ _ _ _ _ => t_yes) (fun _ _ _ _ _ => (d_bin ho_sub (d_ix ho_ix (fun _ _ => rfl) (d_var (pe_var (i := 1) rfl (by first | exact .inl rfl | exact .inr (.inl rfl) | exact .inr (.inr rfl)))) d_int) (d_var (pe_var (i := 2) rfl (by first | exact .inl rfl | exact .inr (.inl rfl) | exact .inr (.inr rfl)))))))))
theorem w_shifted_wishes {P : Program} {w : World} {K : PySem.W.Frag} {mg : Str → Option Value} {base : Heap} (C : Cn K mg) (A : DefAt K mg "shifted_wishes" ["notes"] (topS 26)) (h_heights_ahead : Sub P w K mg base 1 "heights_ahead" ["notes"] (spD K 1 V_heights_ahead)) :
    Sub P w K mg base 2 "shifted_wishes" ["notes"] (spD K 1 V_shifted_wishes) := DL.subD A sc_shifted_wishes (b_shifted_wishes C h_heights_ahead)
theorem sc_sum_rows : FnScope ["notes", "wishes", "places", "rows", "last", "wish", "row", "place", "before", "here"] ["notes"] (defScope (topS 27)) := ⟨rfl, rfl, rfl, by decide +kernel, rfl, by decide +kernel, by decide +kernel⟩
theorem b_sum_rows {P : Program} {w : World} {K : PySem.W.Frag} {mg : Str → Option Value} {base : Heap} (C : Cn K mg) (h_shifted_wishes : Sub P w K mg base 2 "shifted_wishes" ["notes"] (spD K 1 V_shifted_wishes)) :
    Bod P w K mg base 2 ["notes", "wishes", "places", "rows", "last", "wish", "row", "place", "before", "here"] "sum_rows" (topS 27) B_sum_rows :=
  fun f cdv A outer s H hr => (ss_cons (s_set (i := 1) sc_sum_rows.nd rfl (.inl rfl) (d_sub h_shifted_wishes (by decide) hr (by rfl) (d_cons (d_var (pe_var (i := 0) rfl (.inl rfl))) d_nil)))
    (ss_cons (s_set (i := 2) sc_sum_rows.nd rfl (.inl rfl) (d_callB (call_srt_D rfl) (by rfl) C.n_sorted rfl (d_cons (d_dcomp (own := [("wish", 5)]) (vs := [5]) rfl sc_sum_rows.nd (i_seq (d_var (pe_var (i := 1) rfl (.inl rfl)))) (blkOk_by (N := ["notes", "wishes", "places", "rows", "last", "wish", "row", "place", "before", "here"]) (sc := defScope (topS 27)) (by decide +kernel)) (by decide) (fun _ _ _ _ _ => (g_name (i := 5) sc_sum_rows.nd rfl (by first | exact .inl rfl | exact .inr rfl))) (fun _ _ _ _ _ => t_yes) (fun _ _ _ _ _ => (d_callB (call_max_D rfl) (by rfl) C.n_max rfl (d_cons d_int (d_cons (d_var (pe_var (i := 5) rfl (by first | exact .inl rfl | exact .inr (.inl rfl) | exact .inr (.inr rfl)))) d_nil)))) (fun _ _ _ _ _ => d_bl)) d_nil)))
    (ss_cons (s_par (i := 3) (j := 4) rfl sc_sum_rows.nd rfl rfl (by decide) rfl rfl (d_cons (d_lst d_nil) (d_cons (d_bin ho_mul (d_lst (d_cons d_int d_nil)) (d_callB call_len_D (by rfl) C.n_len rfl (d_cons (d_var (pe_var (i := 2) rfl (.inl rfl))) d_nil))) d_nil)) (by rfl))
    (ss_cons (s_for PassesOwn.never rfl (i_seq (d_var (pe_var (i := 1) rfl (.inl rfl)))) (g_name (i := 5) sc_sum_rows.nd rfl (.inl rfl)) (ss_cons (s_set (i := 6) sc_sum_rows.nd rfl (.inl rfl) (d_lst d_nil))
    (ss_cons (s_for PassesOwn.never rfl (i_zip2 (by rfl) C.n_zip (d_cons (d_var (pe_var (i := 2) rfl (.inl rfl))) (d_cons (d_var (pe_var (i := 4) rfl (.inl rfl))) d_nil))) (g_tup rfl (gs_cons (g_name (i := 7) sc_sum_rows.nd rfl (.inl rfl)) (gs_cons (g_name (i := 8) sc_sum_rows.nd rfl (.inl rfl)) gs_nil))) (ss_cons (s_set (i := 9) sc_sum_rows.nd rfl (.inl rfl) (d_bin ho_add (d_var (pe_var (i := 8) rfl (.inl rfl))) (d_callB call_abs_D (by rfl) C.n_abs rfl (d_cons (d_bin ho_sub (d_var (pe_var (i := 7) rfl (.inl rfl))) (d_var (pe_var (i := 5) rfl (.inl rfl)))) d_nil))))
    (ss_one (s_expr (d_meth PySem.F.slot_list_append PySem.F.type_list_append mt_append m_append (pe_var (i := 6) rfl (.inl rfl)) (d_cons (d_if (t_cmp ho_gt (d_callB call_len_D (by rfl) C.n_len rfl (d_cons (d_var (pe_var (i := 6) rfl (.inl rfl))) d_nil)) d_int (nomark _)) (d_callB (call_min_D rfl) (by rfl) C.n_min rfl (d_cons (d_var (pe_var (i := 9) rfl (.inl rfl))) (d_cons (d_ix ho_ix (fun _ _ => rfl) (d_var (pe_var (i := 6) rfl (.inl rfl))) (d_un ho_neg d_int)) d_nil))) (d_var (pe_var (i := 9) rfl (.inl rfl)))) d_nil))))))
    (ss_cons (s_expr (d_meth PySem.F.slot_list_append PySem.F.type_list_append mt_append m_append (pe_var (i := 3) rfl (.inl rfl)) (d_cons (d_var (pe_var (i := 6) rfl (.inl rfl))) d_nil)))
    (ss_one (s_set (i := 4) sc_sum_rows.nd rfl (.inl rfl) (d_var (pe_var (i := 6) rfl (.inl rfl)))))))))
    (ss_one (s_ret (d_tup (d_cons (d_var (pe_var (i := 2) rfl (.inl rfl))) (d_cons (d_var (pe_var (i := 3) rfl (.inl rfl))) d_nil)))))))))
theorem w_sum_rows {P : Program} {w : World} {K : PySem.W.Frag} {mg : Str → Option Value} {base : Heap} (C : Cn K mg) (A : DefAt K mg "sum_rows" ["notes"] (topS 27)) (h_shifted_wishes : Sub P w K mg base 2 "shifted_wishes" ["notes"] (spD K 1 V_shifted_wishes)) :
    Sub P w K mg base 3 "sum_rows" ["notes"] (spD K 1 V_sum_rows) := DL.subD A sc_sum_rows (b_sum_rows C h_shifted_wishes)
theorem sc_sum_spots : FnScope ["notes", "places", "rows", "ahead", "found", "at", "number"] ["notes"] (defScope (topS 29)) := ⟨rfl, rfl, rfl, by decide +kernel, rfl, by decide +kernel, by decide +kernel⟩
theorem b_sum_spots {P : Program} {w : World} {K : PySem.W.Frag} {mg : Str → Option Value} {base : Heap} (C : Cn K mg) (h_check_notes : Sub P w K mg base 3 "check_notes" ["notes"] (spD K 1 V_check_notes)) (h_sum_rows : Sub P w K mg base 3 "sum_rows" ["notes"] (spD K 1 V_sum_rows)) (h_heights_ahead : Sub P w K mg base 1 "heights_ahead" ["notes"] (spD K 1 V_heights_ahead)) :
    Bod P w K mg base 3 ["notes", "places", "rows", "ahead", "found", "at", "number"] "sum_spots" (topS 29) B_sum_spots :=
  fun f cdv A outer s H hr => (ss_cons (s_expr (d_sub h_check_notes (by decide) hr (by rfl) (d_cons (d_var (pe_var (i := 0) rfl (.inl rfl))) d_nil)))
    (ss_cons (s_asg (d_sub h_sum_rows (by decide) hr (by rfl) (d_cons (d_var (pe_var (i := 0) rfl (.inl rfl))) d_nil)) (g_tup rfl (gs_cons (g_name (i := 1) sc_sum_spots.nd rfl (.inl rfl)) (gs_cons (g_name (i := 2) sc_sum_spots.nd rfl (.inl rfl)) gs_nil))))
    (ss_cons (s_par3 (i := 3) (j := 4) (l := 5) rfl sc_sum_spots.nd rfl rfl rfl (by decide) (by decide) (by decide) rfl rfl rfl (d_cons (d_sub h_heights_ahead (by decide) hr (by rfl) (d_cons (d_var (pe_var (i := 0) rfl (.inl rfl))) d_nil)) (d_cons (d_lst d_nil) (d_cons (d_bin ho_sub (d_callB call_len_D (by rfl) C.n_len rfl (d_cons (d_var (pe_var (i := 1) rfl (.inl rfl))) d_nil)) d_int) d_nil))) (by rfl))
    (ss_cons (s_for PassesOwn.never rfl (i_rangeD (by rfl) C.n_range (d_bin ho_sub (d_callB call_len_D (by rfl) C.n_len rfl (d_cons (d_var (pe_var (i := 0) rfl (.inl rfl))) d_nil)) d_int) (d_un ho_neg d_int)) (g_name (i := 6) sc_sum_spots.nd rfl (.inl rfl)) (ss_cons (s_while 100 PassesOwn.never ((t_and (t_cmp ho_gt (d_var (pe_var (i := 5) rfl (.inl rfl))) d_int (nomark _)) (t_and1 (t_cmp ho_eq (d_ix ho_ix (fun _ _ => rfl) (d_ix ho_ix (fun _ _ => rfl) (d_var (pe_var (i := 2) rfl (.inl rfl))) (d_var (pe_var (i := 6) rfl (.inl rfl)))) (d_bin ho_sub (d_var (pe_var (i := 5) rfl (.inl rfl))) d_int)) (d_ix ho_ix (fun _ _ => rfl) (d_ix ho_ix (fun _ _ => rfl) (d_var (pe_var (i := 2) rfl (.inl rfl))) (d_var (pe_var (i := 6) rfl (.inl rfl)))) (d_var (pe_var (i := 5) rfl (.inl rfl)))) (nomark _))))).pt (ss_one (s_aug (i := 5) sc_sum_spots.nd rfl (.inl rfl) d_int ip_sub)))
    (ss_one (s_expr (d_meth PySem.F.slot_list_append PySem.F.type_list_append mt_append m_append (pe_var (i := 4) rfl (.inl rfl)) (d_cons (d_bin ho_add (d_ix ho_ix (fun _ _ => rfl) (d_var (pe_var (i := 1) rfl (.inl rfl))) (d_var (pe_var (i := 5) rfl (.inl rfl)))) (d_ix ho_ix (fun _ _ => rfl) (d_var (pe_var (i := 3) rfl (.inl rfl))) (d_var (pe_var (i := 6) rfl (.inl rfl))))) d_nil))))))
    (ss_one (s_ret (d_callTy call_tuple_D (by rfl) C.n_tuple rfl (d_cons (d_rev (d_var (pe_var (i := 4) rfl (.inl rfl)))) d_nil))))))))
theorem w_sum_spots {P : Program} {w : World} {K : PySem.W.Frag} {mg : Str → Option Value} {base : Heap} (C : Cn K mg) (A : DefAt K mg "sum_spots" ["notes"] (topS 29)) (h_check_notes : Sub P w K mg base 3 "check_notes" ["notes"] (spD K 1 V_check_notes)) (h_sum_rows : Sub P w K mg base 3 "sum_rows" ["notes"] (spD K 1 V_sum_rows)) (h_heights_ahead : Sub P w K mg base 1 "heights_ahead" ["notes"] (spD K 1 V_heights_ahead)) :
    Sub P w K mg base 4 "sum_spots" ["notes"] (spD K 1 V_sum_spots) := DL.subD A sc_sum_spots (b_sum_spots C h_check_notes h_sum_rows h_heights_ahead)
theorem sc_least_sum : FnScope ["notes", "rows"] ["notes"] (defScope (topS 28)) := ⟨rfl, rfl, rfl, by decide +kernel, rfl, by decide +kernel, by decide +kernel⟩
theorem b_least_sum {P : Program} {w : World} {K : PySem.W.Frag} {mg : Str → Option Value} {base : Heap} (C : Cn K mg) (h_check_notes : Sub P w K mg base 3 "check_notes" ["notes"] (spD K 1 V_check_notes)) (h_sum_rows : Sub P w K mg base 3 "sum_rows" ["notes"] (spD K 1 V_sum_rows)) :
    Bod P w K mg base 3 ["notes", "rows"] "least_sum" (topS 28) B_least_sum :=
  fun f cdv A outer s H hr => (ss_cons (s_expr (d_sub h_check_notes (by decide) hr (by rfl) (d_cons (d_var (pe_var (i := 0) rfl (.inl rfl))) d_nil)))
    (ss_cons (s_set (i := 1) sc_least_sum.nd rfl (.inl rfl) (d_ix ho_ix (fun _ _ => rfl) (d_sub h_sum_rows (by decide) hr (by rfl) (d_cons (d_var (pe_var (i := 0) rfl (.inl rfl))) d_nil)) d_int))
    (ss_one (s_ret (d_if (t_cmp ho_gt (d_callB call_len_D (by rfl) C.n_len rfl (d_cons (d_var (pe_var (i := 1) rfl (.inl rfl))) d_nil)) d_int (nomark _)) (d_ix ho_ix (fun _ _ => rfl) (d_ix ho_ix (fun _ _ => rfl) (d_var (pe_var (i := 1) rfl (.inl rfl))) (d_un ho_neg d_int)) (d_un ho_neg d_int)) d_int)))))
theorem w_least_sum {P : Program} {w : World} {K : PySem.W.Frag} {mg : Str → Option Value} {base : Heap} (C : Cn K mg) (A : DefAt K mg "least_sum" ["notes"] (topS 28)) (h_check_notes : Sub P w K mg base 3 "check_notes" ["notes"] (spD K 1 V_check_notes)) (h_sum_rows : Sub P w K mg base 3 "sum_rows" ["notes"] (spD K 1 V_sum_rows)) :
    Sub P w K mg base 4 "least_sum" ["notes"] (spD K 1 V_least_sum) := DL.subD A sc_least_sum (b_least_sum C h_check_notes h_sum_rows)
theorem sc__law_sum : FnScope ["notes", "ahead", "places", "row", "note", "far", "later", "best", "place", "cost"] ["notes"] (defScope (topS 42)) := ⟨rfl, rfl, rfl, by decide +kernel, rfl, by decide +kernel, by decide +kernel⟩
theorem b__law_sum {P : Program} {w : World} {K : PySem.W.Frag} {mg : Str → Option Value} {base : Heap} (C : Cn K mg) (h__law_ahead : Sub P w K mg base 1 "_law_ahead" ["notes"] (spD K 1 V__law_ahead)) :
    Bod P w K mg base 1 ["notes", "ahead", "places", "row", "note", "far", "later", "best", "place", "cost"] "_law_sum" (topS 42) B__law_sum :=
  fun f cdv A outer s H hr => (ss_cons (s_set (i := 1) sc__law_sum.nd rfl (.inl rfl) (d_sub h__law_ahead (by decide) hr (by rfl) (d_cons (d_var (pe_var (i := 0) rfl (.inl rfl))) d_nil)))
    (ss_cons (s_set (i := 2) sc__law_sum.nd rfl (.inl rfl) (d_srtSet rfl (by rfl) C.n_sorted (by rfl) C.n_set (d_bin ho_add (d_lst (d_cons d_int d_nil)) (d_comp (own := [("note", 4), ("far", 5)]) (vs := [4, 5]) rfl sc__law_sum.nd (i_zip2 (by rfl) C.n_zip (d_cons (d_var (pe_var (i := 0) rfl (.inl rfl))) (d_cons (d_var (pe_var (i := 1) rfl (.inl rfl))) d_nil))) (blkOk_by (N := ["notes", "ahead", "places", "row", "note", "far", "later", "best", "place", "cost"]) (sc := defScope (topS 42)) (by decide +kernel)) (by decide) (fun _ _ _ _ _ => (g_tup rfl (gs_cons (g_name (i := 4) sc__law_sum.nd rfl (by first | exact .inl rfl | exact .inr rfl)) (gs_cons (g_name (i := 5) sc__law_sum.nd rfl (by first | exact .inl rfl | exact .inr rfl)) gs_nil)))) (fun _ _ _ _ _ => t_yes) (fun _ _ _ _ _ => (d_callB (call_max_D rfl) (by rfl) C.n_max rfl (d_cons d_int (d_cons (d_bin ho_sub (d_ix ho_ix (fun _ _ => rfl) (d_var (pe_var (i := 4) rfl (by first | exact .inl rfl | exact .inr (.inl rfl) | exact .inr (.inr rfl)))) d_int) (d_var (pe_var (i := 5) rfl (by first | exact .inl rfl | exact .inr (.inl rfl) | exact .inr (.inr rfl))))) d_nil))))))))
    (ss_cons (s_set (i := 3) sc__law_sum.nd rfl (.inl rfl) (d_bin ho_mul (d_lst (d_cons d_int d_nil)) (d_callB call_len_D (by rfl) C.n_len rfl (d_cons (d_var (pe_var (i := 2) rfl (.inl rfl))) d_nil))))
    (ss_cons (s_for PassesOwn.never rfl (i_zip2 (by rfl) C.n_zip (d_cons (d_var (pe_var (i := 0) rfl (.inl rfl))) (d_cons (d_var (pe_var (i := 1) rfl (.inl rfl))) d_nil))) (g_tup rfl (gs_cons (g_name (i := 4) sc__law_sum.nd rfl (.inl rfl)) (gs_cons (g_name (i := 5) sc__law_sum.nd rfl (.inl rfl)) gs_nil))) (ss_cons (s_par (i := 6) (j := 7) rfl sc__law_sum.nd rfl rfl (by decide) rfl rfl (d_cons (d_lst d_nil) (d_cons d_non d_nil)) (by rfl))
    (ss_cons (s_for PassesOwn.never rfl (i_zip2 (by rfl) C.n_zip (d_cons (d_var (pe_var (i := 2) rfl (.inl rfl))) (d_cons (d_var (pe_var (i := 3) rfl (.inl rfl))) d_nil))) (g_tup rfl (gs_cons (g_name (i := 8) sc__law_sum.nd rfl (.inl rfl)) (gs_cons (g_name (i := 9) sc__law_sum.nd rfl (.inl rfl)) gs_nil))) (ss_cons (s_set (i := 7) sc__law_sum.nd rfl (.inl rfl) (d_if (t_cmp ho_is (d_var (pe_var (i := 7) rfl (.inl rfl))) d_non (nomark _)) (d_var (pe_var (i := 9) rfl (.inl rfl))) (d_callB (call_min_D rfl) (by rfl) C.n_min rfl (d_cons (d_var (pe_var (i := 7) rfl (.inl rfl))) (d_cons (d_var (pe_var (i := 9) rfl (.inl rfl))) d_nil)))))
    (ss_one (s_expr (d_meth PySem.F.slot_list_append PySem.F.type_list_append mt_append m_append (pe_var (i := 6) rfl (.inl rfl)) (d_cons (d_bin ho_add (d_var (pe_var (i := 7) rfl (.inl rfl))) (d_callB call_abs_D (by rfl) C.n_abs rfl (d_cons (d_bin ho_sub (d_bin ho_add (d_var (pe_var (i := 8) rfl (.inl rfl))) (d_var (pe_var (i := 5) rfl (.inl rfl)))) (d_ix ho_ix (fun _ _ => rfl) (d_var (pe_var (i := 4) rfl (.inl rfl))) d_int)) d_nil))) d_nil))))))
    (ss_one (s_set (i := 3) sc__law_sum.nd rfl (.inl rfl) (d_var (pe_var (i := 6) rfl (.inl rfl))))))))
    (ss_one (s_ret (d_callB (call_min_D rfl) (by rfl) C.n_min rfl (d_cons (d_var (pe_var (i := 3) rfl (.inl rfl))) d_nil))))))))
theorem w__law_sum {P : Program} {w : World} {K : PySem.W.Frag} {mg : Str → Option Value} {base : Heap} (C : Cn K mg) (A : DefAt K mg "_law_sum" ["notes"] (topS 42)) (h__law_ahead : Sub P w K mg base 1 "_law_ahead" ["notes"] (spD K 1 V__law_ahead)) :
    Sub P w K mg base 2 "_law_sum" ["notes"] (spD K 1 V__law_sum) := DL.subD A sc__law_sum (b__law_sum C h__law_ahead)
theorem sc__law_are_spots : FnScope ["notes", "thing", "one", "later", "note", "spot"] ["notes", "thing"] (defScope (topS 39)) := ⟨rfl, rfl, rfl, by decide +kernel, rfl, by decide +kernel, by decide +kernel⟩
theorem b__law_are_spots {P : Program} {w : World} {K : PySem.W.Frag} {mg : Str → Option Value} {base : Heap} (C : Cn K mg)  :
    Bod P w K mg base 0 ["notes", "thing", "one", "later", "note", "spot"] "_law_are_spots" (topS 39) B__law_are_spots :=
  fun f cdv A outer s H hr => (ss_cons (s_if ((t_or (t_not (t_val (d_isi C.i_tuple (by rfl) C.n_isinstance (d_var (pe_var (i := 1) rfl (.inl rfl))) (pe_bltn (by rfl) C.n_tuple rfl rfl)))) (t_or (t_cmp ho_ne (d_callB call_len_D (by rfl) C.n_len rfl (d_cons (d_var (pe_var (i := 1) rfl (.inl rfl))) d_nil)) (d_callB call_len_D (by rfl) C.n_len rfl (d_cons (d_var (pe_var (i := 0) rfl (.inl rfl))) d_nil)) (nomark _)) (t_or1 (t_val (d_callB (call_any_D rfl) (by rfl) C.n_any rfl (d_cons (d_comp (own := [("spot", 5)]) (vs := [5]) rfl sc__law_are_spots.nd (i_seq (d_var (pe_var (i := 1) rfl (.inl rfl)))) (blkOk_by (N := ["notes", "thing", "one", "later", "note", "spot"]) (sc := defScope (topS 39)) (by decide +kernel)) (by decide) (fun _ _ _ _ _ => (g_name (i := 5) sc__law_are_spots.nd rfl (by first | exact .inl rfl | exact .inr rfl))) (fun _ _ _ _ _ => t_yes) (fun _ _ _ _ _ => (d_cmp ho_lt (d_var (pe_var (i := 5) rfl (by first | exact .inl rfl | exact .inr (.inl rfl) | exact .inr (.inr rfl)))) d_int (nomark _)))) d_nil))))))).pt (ss_one (s_ret d_bl)) ss_nil)
    (ss_one (s_ret (d_callB (call_all_D rfl) (by rfl) C.n_all rfl (d_cons (d_comp (own := [("one", 2), ("later", 3), ("note", 4)]) (vs := [2, 3, 4]) rfl sc__law_are_spots.nd (i_zip3 (by rfl) C.n_zip (d_cons (d_var (pe_var (i := 1) rfl (.inl rfl))) (d_cons (d_sl (d_var (pe_var (i := 1) rfl (.inl rfl))) (o_so d_int) o_no) (d_cons (d_var (pe_var (i := 0) rfl (.inl rfl))) d_nil)))) (blkOk_by (N := ["notes", "thing", "one", "later", "note", "spot"]) (sc := defScope (topS 39)) (by decide +kernel)) (by decide) (fun _ _ _ _ _ => (g_tup rfl (gs_cons (g_name (i := 2) sc__law_are_spots.nd rfl (by first | exact .inl rfl | exact .inr rfl)) (gs_cons (g_name (i := 3) sc__law_are_spots.nd rfl (by first | exact .inl rfl | exact .inr rfl)) (gs_cons (g_name (i := 4) sc__law_are_spots.nd rfl (by first | exact .inl rfl | exact .inr rfl)) gs_nil))))) (fun _ _ _ _ _ => t_yes) (fun _ _ _ _ _ => (d_cmp ho_ge (d_var (pe_var (i := 3) rfl (by first | exact .inl rfl | exact .inr (.inl rfl) | exact .inr (.inr rfl)))) (d_bin ho_add (d_var (pe_var (i := 2) rfl (by first | exact .inl rfl | exact .inr (.inl rfl) | exact .inr (.inr rfl)))) (d_ix ho_ix (fun _ _ => rfl) (d_var (pe_var (i := 4) rfl (by first | exact .inl rfl | exact .inr (.inl rfl) | exact .inr (.inr rfl)))) d_int)) (nomark _)))) d_nil)))))
theorem w__law_are_spots {P : Program} {w : World} {K : PySem.W.Frag} {mg : Str → Option Value} {base : Heap} (C : Cn K mg) (A : DefAt K mg "_law_are_spots" ["notes", "thing"] (topS 39))  :
    Sub P w K mg base 1 "_law_are_spots" ["notes", "thing"] (spD K 2 V__law_are_spots) := DL.subD A sc__law_are_spots (b__law_are_spots C)
theorem sc__law_is_right : FnScope ["hand", "notes", "least", "own", "end", "wish", "height", "pair", "turn", "last", "thing", "at", "some", "flag", "down", "later", "spot", "note"] ["hand"] (defScope (topS 43)) := ⟨rfl, rfl, rfl, by decide +kernel, rfl, by decide +kernel, by decide +kernel⟩
theorem b__law_is_right {P : Program} {w : World} {K : PySem.W.Frag} {mg : Str → Option Value} {base : Heap} (C : Cn K mg) (h__law_notes : Sub P w K mg base 3 "_law_notes" ["hand"] (spB K 0 V__law_notes)) (h__law_least : Sub P w K mg base 2 "_law_least" ["notes"] (spD K 1 V__law_least)) (h__law_is : Sub P w K mg base 1 "_law_is" ["told", "due"] (spD K 2 V__law_is)) (h__law_off : Sub P w K mg base 1 "_law_off" ["notes", "some"] (spD K 2 V__law_off)) (h_off : Sub P w K mg base 4 "off" ["notes", "spots"] (spD K 2 V_off)) (h_spots : Sub P w K mg base 4 "spots" ["notes"] (spD K 1 V_spots)) (h_least_off : Sub P w K mg base 4 "least_off" ["notes"] (spD K 1 V_least_off)) (h_is_spots : Sub P w K mg base 4 "is_spots" ["notes", "thing"] (spD K 2 V_is_spots)) (h_pressing : Sub P w K mg base 4 "pressing" ["notes"] (spD K 1 V_pressing)) (h__law_presses : Sub P w K mg base 2 "_law_presses" ["notes", "least", "thing"] (spD K 3 V__law_presses)) (h__law_draw : Sub P w K mg base 1 "_law_draw" ["hand", "many"] (spB K 1 V__law_draw)) (h__law_any : Sub P w K mg base 2 "_law_any" ["hand", "some"] (spB K 1 V__law_any)) (h_is_pressing : Sub P w K mg base 4 "is_pressing" ["notes", "thing"] (spD K 2 V_is_pressing)) (h_sum_spots : Sub P w K mg base 4 "sum_spots" ["notes"] (spD K 1 V_sum_spots)) (h_least_sum : Sub P w K mg base 4 "least_sum" ["notes"] (spD K 1 V_least_sum)) (h__law_sum : Sub P w K mg base 2 "_law_sum" ["notes"] (spD K 1 V__law_sum)) (h__law_are_spots : Sub P w K mg base 1 "_law_are_spots" ["notes", "thing"] (spD K 2 V__law_are_spots)) :
    Bod P w K mg base 4 ["hand", "notes", "least", "own", "end", "wish", "height", "pair", "turn", "last", "thing", "at", "some", "flag", "down", "later", "spot", "note"] "_law_is_right" (topS 43) B__law_is_right :=
  fun f cdv A outer s H hr => (ss_cons (s_set (i := 1) sc__law_is_right.nd rfl (.inl rfl) (d_subB h__law_notes (by decide) hr (by rfl) (pe_var (i := 0) rfl (.inl rfl)) d_nil))
    (ss_cons (s_set (i := 2) sc__law_is_right.nd rfl (.inl rfl) (d_sub h__law_least (by decide) hr (by rfl) (d_cons (d_var (pe_var (i := 1) rfl (.inl rfl))) d_nil)))
    (ss_cons (s_par (i := 3) (j := 4) rfl sc__law_is_right.nd rfl rfl (by decide) rfl rfl (d_cons (d_lst d_nil) (d_cons d_int d_nil)) (by rfl))
    (ss_cons (s_for PassesOwn.never rfl (i_seq (d_var (pe_var (i := 1) rfl (.inl rfl)))) (g_tup rfl (gs_cons (g_name (i := 5) sc__law_is_right.nd rfl (.inl rfl)) (gs_cons (g_name (i := 6) sc__law_is_right.nd rfl (.inl rfl)) gs_nil))) (ss_cons (s_expr (d_meth PySem.F.slot_list_append PySem.F.type_list_append mt_append m_append (pe_var (i := 3) rfl (.inl rfl)) (d_cons (d_callB (call_max_D rfl) (by rfl) C.n_max rfl (d_cons (d_var (pe_var (i := 4) rfl (.inl rfl))) (d_cons (d_bin ho_sub (d_var (pe_var (i := 5) rfl (.inl rfl))) (d_var (pe_var (i := 2) rfl (.inl rfl)))) d_nil))) d_nil)))
    (ss_one (s_set (i := 4) sc__law_is_right.nd rfl (.inl rfl) (d_bin ho_add (d_ix ho_ix (fun _ _ => rfl) (d_var (pe_var (i := 3) rfl (.inl rfl))) (d_un ho_neg d_int)) (d_var (pe_var (i := 6) rfl (.inl rfl))))))))
    (ss_cons (s_set (i := 3) sc__law_is_right.nd rfl (.inl rfl) (d_callTy call_tuple_D (by rfl) C.n_tuple rfl (d_cons (d_var (pe_var (i := 3) rfl (.inl rfl))) d_nil)))
    (ss_cons (s_if (t_not (t_val (d_sub h__law_is (by decide) hr (by rfl) (d_cons (d_lst (d_cons (d_sub h_least_off (by decide) hr (by rfl) (d_cons (d_var (pe_var (i := 1) rfl (.inl rfl))) d_nil)) (d_cons (d_sub h_spots (by decide) hr (by rfl) (d_cons (d_var (pe_var (i := 1) rfl (.inl rfl))) d_nil)) (d_cons (d_sub h_off (by decide) hr (by rfl) (d_cons (d_var (pe_var (i := 1) rfl (.inl rfl))) (d_cons (d_var (pe_var (i := 3) rfl (.inl rfl))) d_nil))) d_nil)))) (d_cons (d_lst (d_cons (d_var (pe_var (i := 2) rfl (.inl rfl))) (d_cons (d_var (pe_var (i := 3) rfl (.inl rfl))) (d_cons (d_sub h__law_off (by decide) hr (by rfl) (d_cons (d_var (pe_var (i := 1) rfl (.inl rfl))) (d_cons (d_var (pe_var (i := 3) rfl (.inl rfl))) d_nil))) d_nil)))) d_nil))))) (ss_one (s_ret d_bl)) ss_nil)
    (ss_cons (s_if ((t_or (t_cmp ho_ne (d_sub h__law_off (by decide) hr (by rfl) (d_cons (d_var (pe_var (i := 1) rfl (.inl rfl))) (d_cons (d_var (pe_var (i := 3) rfl (.inl rfl))) d_nil))) (d_var (pe_var (i := 2) rfl (.inl rfl))) (nomark _)) (t_or1 (t_cmp ho_isNot (d_sub h_is_spots (by decide) hr (by rfl) (d_cons (d_var (pe_var (i := 1) rfl (.inl rfl))) (d_cons (d_var (pe_var (i := 3) rfl (.inl rfl))) d_nil))) d_bl (nomark _))))).pt (ss_one (s_ret d_bl)) ss_nil)
    (ss_cons (s_set (i := 7) sc__law_is_right.nd rfl (.inl rfl) (d_sub h_pressing (by decide) hr (by rfl) (d_cons (d_var (pe_var (i := 1) rfl (.inl rfl))) d_nil)))
    (ss_cons (s_if ((t_or (t_cmp ho_ne (d_cmp ho_is (d_var (pe_var (i := 7) rfl (.inl rfl))) d_non (nomark _)) (d_cmp ho_eq (d_var (pe_var (i := 2) rfl (.inl rfl))) d_int (nomark _)) (nomark _)) (t_or1 ((t_and (t_cmp ho_isNot (d_var (pe_var (i := 7) rfl (.inl rfl))) d_non (nomark _)) (t_and1 (t_not (t_val (d_sub h__law_presses (by decide) hr (by rfl) (d_cons (d_var (pe_var (i := 1) rfl (.inl rfl))) (d_cons (d_var (pe_var (i := 2) rfl (.inl rfl))) (d_cons (d_var (pe_var (i := 7) rfl (.inl rfl))) d_nil))))))))).pt))).pt (ss_one (s_ret d_bl)) ss_nil)
    (ss_cons (s_if (t_cmp ho_gt (d_var (pe_var (i := 2) rfl (.inl rfl))) d_int (nomark _)) (ss_one (s_for PassesOwn.never rfl (i_range1 (by rfl) C.n_range d_int) (g_name (i := 8) sc__law_is_right.nd rfl (.inl rfl)) (ss_cons (s_set (i := 9) sc__law_is_right.nd rfl (.inl rfl) (d_subB h__law_draw (by decide) hr (by rfl) (pe_var (i := 0) rfl (.inl rfl)) (d_cons (d_callB call_len_D (by rfl) C.n_len rfl (d_cons (d_var (pe_var (i := 1) rfl (.inl rfl))) d_nil)) d_nil)))
    (ss_cons (s_set (i := 10) sc__law_is_right.nd rfl (.inl rfl) (d_tup (d_cons (d_subB h__law_any (by decide) hr (by rfl) (pe_var (i := 0) rfl (.inl rfl)) (d_cons (d_bin ho_add (d_lst (d_cons d_non d_nil)) (d_lr1 rfl (by rfl) C.n_list (by rfl) C.n_range (d_var (pe_var (i := 9) rfl (.inl rfl))))) d_nil)) (d_cons (d_var (pe_var (i := 9) rfl (.inl rfl))) d_nil))))
    (ss_one (s_if (t_not (t_val (d_sub h__law_is (by decide) hr (by rfl) (d_cons (d_sub h_is_pressing (by decide) hr (by rfl) (d_cons (d_var (pe_var (i := 1) rfl (.inl rfl))) (d_cons (d_var (pe_var (i := 10) rfl (.inl rfl))) d_nil))) (d_cons (d_sub h__law_presses (by decide) hr (by rfl) (d_cons (d_var (pe_var (i := 1) rfl (.inl rfl))) (d_cons (d_var (pe_var (i := 2) rfl (.inl rfl))) (d_cons (d_var (pe_var (i := 10) rfl (.inl rfl))) d_nil)))) d_nil))))) (ss_one (s_ret d_bl)) ss_nil)))))) ss_nil)
    (ss_cons (s_set (i := 11) sc__law_is_right.nd rfl (.inl rfl) (d_subB h__law_draw (by decide) hr (by rfl) (pe_var (i := 0) rfl (.inl rfl)) (d_cons (d_callB call_len_D (by rfl) C.n_len rfl (d_cons (d_var (pe_var (i := 1) rfl (.inl rfl))) d_nil)) d_nil)))
    (ss_cons (s_set (i := 12) sc__law_is_right.nd rfl (.inl rfl) (d_sub h_sum_spots (by decide) hr (by rfl) (d_cons (d_var (pe_var (i := 1) rfl (.inl rfl))) d_nil)))
    (ss_cons (s_if ((t_or (t_cmp ho_ne (d_sub h_least_sum (by decide) hr (by rfl) (d_cons (d_var (pe_var (i := 1) rfl (.inl rfl))) d_nil)) (d_sub h__law_sum (by decide) hr (by rfl) (d_cons (d_var (pe_var (i := 1) rfl (.inl rfl))) d_nil)) (nomark _)) (t_or1 (t_not (t_val (d_sub h__law_are_spots (by decide) hr (by rfl) (d_cons (d_var (pe_var (i := 1) rfl (.inl rfl))) (d_cons (d_var (pe_var (i := 12) rfl (.inl rfl))) d_nil)))))))).pt (ss_one (s_ret d_bl)) ss_nil)
    (ss_cons (s_if (t_cmp ho_ne (d_callB (call_sum_D rfl) (by rfl) C.n_sum rfl (d_cons (d_comp (own := [("spot", 16), ("note", 17)]) (vs := [16, 17]) rfl sc__law_is_right.nd (i_zip2 (by rfl) C.n_zip (d_cons (d_var (pe_var (i := 12) rfl (.inl rfl))) (d_cons (d_var (pe_var (i := 1) rfl (.inl rfl))) d_nil))) (blkOk_by (N := ["hand", "notes", "least", "own", "end", "wish", "height", "pair", "turn", "last", "thing", "at", "some", "flag", "down", "later", "spot", "note"]) (sc := defScope (topS 43)) (by decide +kernel)) (by decide) (fun _ _ _ _ _ => (g_tup rfl (gs_cons (g_name (i := 16) sc__law_is_right.nd rfl (by first | exact .inl rfl | exact .inr rfl)) (gs_cons (g_name (i := 17) sc__law_is_right.nd rfl (by first | exact .inl rfl | exact .inr rfl)) gs_nil)))) (fun _ _ _ _ _ => t_yes) (fun _ _ _ _ _ => (d_callB call_abs_D (by rfl) C.n_abs rfl (d_cons (d_bin ho_sub (d_var (pe_var (i := 16) rfl (by first | exact .inl rfl | exact .inr (.inl rfl) | exact .inr (.inr rfl)))) (d_ix ho_ix (fun _ _ => rfl) (d_var (pe_var (i := 17) rfl (by first | exact .inl rfl | exact .inr (.inl rfl) | exact .inr (.inr rfl)))) d_int)) d_nil)))) d_nil)) (d_sub h__law_sum (by decide) hr (by rfl) (d_cons (d_var (pe_var (i := 1) rfl (.inl rfl))) d_nil)) (nomark _)) (ss_one (s_ret d_bl)) ss_nil)
    (ss_cons (s_for PassesOwn.never rfl (i_seq (d_tup (d_cons (d_var (pe_var (i := 12) rfl (.inl rfl))) (d_cons (d_bin ho_add (d_bin ho_add (d_sl (d_var (pe_var (i := 3) rfl (.inl rfl))) o_no (o_so (d_var (pe_var (i := 11) rfl (.inl rfl))))) (d_tup (d_cons (d_bin ho_add (d_ix ho_ix (fun _ _ => rfl) (d_var (pe_var (i := 3) rfl (.inl rfl))) (d_var (pe_var (i := 11) rfl (.inl rfl)))) d_int) d_nil))) (d_sl (d_var (pe_var (i := 3) rfl (.inl rfl))) (o_so (d_bin ho_add (d_var (pe_var (i := 11) rfl (.inl rfl))) d_int)) o_no)) (d_cons (d_bin ho_add (d_bin ho_add (d_sl (d_var (pe_var (i := 3) rfl (.inl rfl))) o_no (o_so (d_var (pe_var (i := 11) rfl (.inl rfl))))) (d_tup (d_cons (d_bin ho_sub (d_ix ho_ix (fun _ _ => rfl) (d_var (pe_var (i := 3) rfl (.inl rfl))) (d_var (pe_var (i := 11) rfl (.inl rfl)))) d_int) d_nil))) (d_sl (d_var (pe_var (i := 3) rfl (.inl rfl))) (o_so (d_bin ho_add (d_var (pe_var (i := 11) rfl (.inl rfl))) d_int)) o_no)) (d_cons (d_sl (d_var (pe_var (i := 3) rfl (.inl rfl))) (o_so d_int) o_no) d_nil)))))) (g_name (i := 10) sc__law_is_right.nd rfl (.inl rfl)) (ss_cons (s_set (i := 13) sc__law_is_right.nd rfl (.inl rfl) (d_sub h__law_are_spots (by decide) hr (by rfl) (d_cons (d_var (pe_var (i := 1) rfl (.inl rfl))) (d_cons (d_var (pe_var (i := 10) rfl (.inl rfl))) d_nil))))
    (ss_cons (s_if (t_not (t_val (d_sub h__law_is (by decide) hr (by rfl) (d_cons (d_sub h_is_spots (by decide) hr (by rfl) (d_cons (d_var (pe_var (i := 1) rfl (.inl rfl))) (d_cons (d_var (pe_var (i := 10) rfl (.inl rfl))) d_nil))) (d_cons (d_var (pe_var (i := 13) rfl (.inl rfl))) d_nil))))) (ss_one (s_ret d_bl)) ss_nil)
    (ss_one (s_if ((t_and (t_val (d_var (pe_var (i := 13) rfl (.inl rfl)))) (t_and1 ((t_or (t_cmp ho_ne (d_sub h_off (by decide) hr (by rfl) (d_cons (d_var (pe_var (i := 1) rfl (.inl rfl))) (d_cons (d_var (pe_var (i := 10) rfl (.inl rfl))) d_nil))) (d_sub h__law_off (by decide) hr (by rfl) (d_cons (d_var (pe_var (i := 1) rfl (.inl rfl))) (d_cons (d_var (pe_var (i := 10) rfl (.inl rfl))) d_nil))) (nomark _)) (t_or1 (t_cmp ho_lt (d_sub h__law_off (by decide) hr (by rfl) (d_cons (d_var (pe_var (i := 1) rfl (.inl rfl))) (d_cons (d_var (pe_var (i := 10) rfl (.inl rfl))) d_nil))) (d_var (pe_var (i := 2) rfl (.inl rfl))) (nomark _))))).pt))).pt (ss_one (s_ret d_bl)) ss_nil)))))
    (ss_cons (s_set (i := 14) sc__law_is_right.nd rfl (.inr rfl) (d_bin ho_add d_int (d_subB h__law_draw (by decide) hr (by rfl) (pe_var (i := 0) rfl (.inl rfl)) (d_cons d_int d_nil))))
    (ss_cons (s_if (t_cmp ho_gt (d_bin ho_add (d_callB (call_max_D rfl) (by rfl) C.n_max rfl (d_cons (d_comp (own := [("note", 17)]) (vs := [17]) rfl sc__law_is_right.nd (i_seq (d_var (pe_var (i := 1) rfl (.inl rfl)))) (blkOk_by (N := ["hand", "notes", "least", "own", "end", "wish", "height", "pair", "turn", "last", "thing", "at", "some", "flag", "down", "later", "spot", "note"]) (sc := defScope (topS 43)) (by decide +kernel)) (by decide) (fun _ _ _ _ _ => (g_name (i := 17) sc__law_is_right.nd rfl (by first | exact .inl rfl | exact .inr rfl))) (fun _ _ _ _ _ => t_yes) (fun _ _ _ _ _ => (d_ix ho_ix (fun _ _ => rfl) (d_var (pe_var (i := 17) rfl (by first | exact .inl rfl | exact .inr (.inl rfl) | exact .inr (.inr rfl)))) d_int))) d_nil)) (d_var (pe_var (i := 14) rfl (.inr (.inl rfl))))) d_int (nomark _)) (ss_one (s_ret d_bl)) ss_nil)
    (ss_cons (s_set (i := 15) sc__law_is_right.nd rfl (.inl rfl) (d_callTy call_tuple_D (by rfl) C.n_tuple rfl (d_cons (d_comp (own := [("wish", 5), ("height", 6)]) (vs := [5, 6]) rfl sc__law_is_right.nd (i_seq (d_var (pe_var (i := 1) rfl (.inl rfl)))) (blkOk_by (N := ["hand", "notes", "least", "own", "end", "wish", "height", "pair", "turn", "last", "thing", "at", "some", "flag", "down", "later", "spot", "note"]) (sc := defScope (topS 43)) (by decide +kernel)) (by decide) (fun _ _ _ _ _ => (g_tup rfl (gs_cons (g_name (i := 5) sc__law_is_right.nd rfl (by first | exact .inl rfl | exact .inr rfl)) (gs_cons (g_name (i := 6) sc__law_is_right.nd rfl (by first | exact .inl rfl | exact .inr rfl)) gs_nil)))) (fun _ _ _ _ _ => t_yes) (fun _ _ _ _ _ => (d_tup (d_cons (d_bin ho_add (d_var (pe_var (i := 5) rfl (by first | exact .inl rfl | exact .inr (.inl rfl) | exact .inr (.inr rfl)))) (d_var (pe_var (i := 14) rfl (by first | exact .inl rfl | exact .inr (.inl rfl) | exact .inr (.inr rfl))))) (d_cons (d_var (pe_var (i := 6) rfl (by first | exact .inl rfl | exact .inr (.inl rfl) | exact .inr (.inr rfl)))) d_nil))))) d_nil)))
    (ss_one (s_ret (d_and (d_cmp ho_eq (d_sub h_least_off (by decide) hr (by rfl) (d_cons (d_var (pe_var (i := 15) rfl (.inl rfl))) d_nil)) (d_sub h__law_least (by decide) hr (by rfl) (d_cons (d_var (pe_var (i := 15) rfl (.inl rfl))) d_nil)) (nomark _)) (d_and (d_cmp ho_le (d_sub h_least_off (by decide) hr (by rfl) (d_cons (d_var (pe_var (i := 15) rfl (.inl rfl))) d_nil)) (d_var (pe_var (i := 2) rfl (.inl rfl))) (nomark _)) (d_one (d_cmp ho_eq (d_sub h_least_sum (by decide) hr (by rfl) (d_cons (d_var (pe_var (i := 15) rfl (.inl rfl))) d_nil)) (d_sub h__law_sum (by decide) hr (by rfl) (d_cons (d_var (pe_var (i := 15) rfl (.inl rfl))) d_nil)) (nomark _)))))))))))))))))))))))))
theorem w__law_is_right {P : Program} {w : World} {K : PySem.W.Frag} {mg : Str → Option Value} {base : Heap} (C : Cn K mg) (A : DefAt K mg "_law_is_right" ["hand"] (topS 43)) (h__law_notes : Sub P w K mg base 3 "_law_notes" ["hand"] (spB K 0 V__law_notes)) (h__law_least : Sub P w K mg base 2 "_law_least" ["notes"] (spD K 1 V__law_least)) (h__law_is : Sub P w K mg base 1 "_law_is" ["told", "due"] (spD K 2 V__law_is)) (h__law_off : Sub P w K mg base 1 "_law_off" ["notes", "some"] (spD K 2 V__law_off)) (h_off : Sub P w K mg base 4 "off" ["notes", "spots"] (spD K 2 V_off)) (h_spots : Sub P w K mg base 4 "spots" ["notes"] (spD K 1 V_spots)) (h_least_off : Sub P w K mg base 4 "least_off" ["notes"] (spD K 1 V_least_off)) (h_is_spots : Sub P w K mg base 4 "is_spots" ["notes", "thing"] (spD K 2 V_is_spots)) (h_pressing : Sub P w K mg base 4 "pressing" ["notes"] (spD K 1 V_pressing)) (h__law_presses : Sub P w K mg base 2 "_law_presses" ["notes", "least", "thing"] (spD K 3 V__law_presses)) (h__law_draw : Sub P w K mg base 1 "_law_draw" ["hand", "many"] (spB K 1 V__law_draw)) (h__law_any : Sub P w K mg base 2 "_law_any" ["hand", "some"] (spB K 1 V__law_any)) (h_is_pressing : Sub P w K mg base 4 "is_pressing" ["notes", "thing"] (spD K 2 V_is_pressing)) (h_sum_spots : Sub P w K mg base 4 "sum_spots" ["notes"] (spD K 1 V_sum_spots)) (h_least_sum : Sub P w K mg base 4 "least_sum" ["notes"] (spD K 1 V_least_sum)) (h__law_sum : Sub P w K mg base 2 "_law_sum" ["notes"] (spD K 1 V__law_sum)) (h__law_are_spots : Sub P w K mg base 1 "_law_are_spots" ["notes", "thing"] (spD K 2 V__law_are_spots)) :
    Sub P w K mg base 5 "_law_is_right" ["hand"] (spB K 0 V__law_is_right) := DL.subB (n := 0) A sc__law_is_right rfl (b__law_is_right C h__law_notes h__law_least h__law_is h__law_off h_off h_spots h_least_off h_is_spots h_pressing h__law_presses h__law_draw h__law_any h_is_pressing h_sum_spots h_least_sum h__law_sum h__law_are_spots)
theorem sc_law : FnScope ["script", "hand", "turn"] ["script"] (defScope (topS 44)) := ⟨rfl, rfl, rfl, by decide +kernel, rfl, by decide +kernel, by decide +kernel⟩
theorem b_law {P : Program} {w : World} {K : PySem.W.Frag} {mg : Str → Option Value} {base : Heap} (C : Cn K mg) (h__law_hand : Sub P w K mg base 1 "_law_hand" ["script"] (spS K V__law_hand)) (h__law_is_right : Sub P w K mg base 5 "_law_is_right" ["hand"] (spB K 0 V__law_is_right)) :
    Bod P w K mg base 5 ["script", "hand", "turn"] "law" (topS 44) B_law :=
  fun f cdv A outer s H hr => (ss_cons (s_set (i := 1) sc_law.nd rfl (.inl rfl) (d_subS h__law_hand (by decide) hr (by rfl) (pe_var (i := 0) rfl (.inl rfl))))
    (ss_cons (s_for PassesOwn.never rfl (i_range1 (by rfl) C.n_range d_int) (g_name (i := 2) sc_law.nd rfl (.inl rfl)) (ss_one (s_if (t_not (t_val (d_subB h__law_is_right (by decide) hr (by rfl) (pe_var (i := 1) rfl (.inl rfl)) d_nil))) (ss_one (s_ret d_bl)) ss_nil)))
    (ss_one (s_ret d_bl))))
theorem w_law {P : Program} {w : World} {K : PySem.W.Frag} {mg : Str → Option Value} {base : Heap} (C : Cn K mg) (A : DefAt K mg "law" ["script"] (topS 44)) (h__law_hand : Sub P w K mg base 1 "_law_hand" ["script"] (spS K V__law_hand)) (h__law_is_right : Sub P w K mg base 5 "_law_is_right" ["hand"] (spB K 0 V__law_is_right)) :
    Sub P w K mg base 6 "law" ["script"] (spS K V_law) := DL.subS A sc_law (b_law C h__law_hand h__law_is_right)
end K07
set_option Elab.async false
set_option linter.all false
set_option maxRecDepth 100000
/-! DL: what loops and comprehensions give. -/
namespace DL
open PySem PySem.Spec PyProof.Rows L2
theorem forD_run {g : Gt} {fb : M Out} : ∀ {items : List PD} {ρ : En} (I : Nat → En → Prop) (R : Hd → En → Prop), I 0 ρ →
    (∀ i d ρ, items[i]? = some d → I i ρ → ∃ ρ1 ρ2, g d ρ = some ρ1 ∧ ((fb ρ1 = some (.nx, ρ2) ∧ I (i + 1) ρ2) ∨ ∃ h, fb ρ1 = some (.rt h, ρ2) ∧ R h ρ2)) →
    (∃ ρ', forD g fb items ρ = some (.nx, ρ') ∧ I items.length ρ') ∨ ∃ h ρ', forD g fb items ρ = some (.rt h, ρ') ∧ R h ρ'
  | [], ρ, I, R, h0, _ => .inl ⟨ρ, rfl, h0⟩
  | d :: r, ρ, I, R, h0, hs => by
    obtain ⟨ρ1, ρ2, e1, e2⟩ := hs 0 d ρ rfl h0
    rcases e2 with ⟨e2, h1⟩ | ⟨h, e2, hR⟩
    · have := forD_run (items := r) (ρ := ρ2) (fun i => I (i + 1)) R h1 fun i d ρ e h => hs (i + 1) d ρ (by simpa using e) h
      simp only [forD, e1, e2]
      rcases this with ⟨ρ', a, b⟩ | ⟨h, ρ', a, b⟩
      · exact .inl ⟨ρ', a, b⟩
      · exact .inr ⟨h, ρ', a, b⟩
    · refine .inr ⟨h, ρ2, ?_, hR⟩
      simp only [forD, e1, e2]
theorem forD_all {g : Gt} {fb : M Out} {items : List PD} {ρ : En} (I : Nat → En → Prop) (h0 : I 0 ρ)
    (hs : ∀ i d ρ, items[i]? = some d → I i ρ → ∃ ρ1 ρ2, g d ρ = some ρ1 ∧ fb ρ1 = some (.nx, ρ2) ∧ I (i + 1) ρ2) : ∃ ρ', forD g fb items ρ = some (.nx, ρ') ∧ I items.length ρ' := by
  rcases forD_run I (fun _ _ => False) h0 fun i d ρ e h => let ⟨a, b, c, d, e⟩ := hs i d ρ e h; ⟨a, b, c, .inl ⟨d, e⟩⟩ with h | ⟨_, _, _, h⟩
  · exact h
  · exact h.elim
/-- a comprehension without a condition, nothing changed by it -/
theorem comp_map {ws : List Nat} {g : Gt} {te : M Hd} {ρ : En} (f : PD → PD) : ∀ {items acc : List PD}, (∀ d, d ∈ items → ∃ ρ1 ρ2, g d ρ = some ρ1 ∧ eFrz te ρ1 = some (f d, ρ2) ∧ wipeE ws ρ2 = some ρ) →
    compD ws g (pur true) te items acc ρ = some (acc ++ items.map f, ρ)
  | [], acc, _ => by simp [compD]
  | d :: r, acc, h => by
    obtain ⟨ρ1, ρ2, e1, e2, e3⟩ := h d (List.mem_cons_self ..)
    simp only [compD, pur, e1, e2, e3]
    rw [comp_map f (items := r) fun d hd => h d (List.mem_cons_of_mem _ hd)]
    simp
/-- by places -/
theorem comp_mapI {ws : List Nat} {g : Gt} {te : M Hd} : ∀ {items acc : List PD} {ρ : En} (I : Nat → En → Prop) (f : Nat → PD → PD → Prop), I 0 ρ →
    (∀ i d ρ, items[i]? = some d → I i ρ → ∃ ρ1 ρ2 ρ3 x, g d ρ = some ρ1 ∧ eFrz te ρ1 = some (x, ρ2) ∧ wipeE ws ρ2 = some ρ3 ∧ f i d x ∧ I (i + 1) ρ3) →
    ∃ out ρ', compD ws g (pur true) te items acc ρ = some (acc ++ out, ρ') ∧ I items.length ρ' ∧ out.length = items.length ∧ ∀ i d x, items[i]? = some d → out[i]? = some x → f i d x
  | [], acc, ρ, I, f, h0, _ => ⟨[], ρ, by simp [compD], h0, rfl, fun i d x h => by simp at h⟩
  | d :: r, acc, ρ, I, f, h0, hs => by
    obtain ⟨ρ1, ρ2, ρ3, x, e1, e2, e3, hf, h1⟩ := hs 0 d ρ rfl h0
    obtain ⟨out, ρ', a, b, c, e⟩ := comp_mapI (items := r) (acc := acc ++ [x]) (ρ := ρ3) (fun i => I (i + 1)) (fun i => f (i + 1)) h1 fun i d ρ e h => hs (i + 1) d ρ (by simpa using e) h
    refine ⟨x :: out, ρ', ?_, b, by simp [c], fun i d' x' h1 h2 => ?_⟩
    · simp only [compD, pur, e1, e2, e3]
      rw [a]
      simp
    · cases i with
      | zero => simp at h1 h2; subst h1; subst h2; exact hf
      | succ i => exact e i d' x' (by simpa using h1) (by simpa using h2)
theorem eComp_of {ws : List Nat} {fi : M (List PD)} {g : Gt} {te : M Hd} {ρ ρ1 ρ2 ρ3 : En} {items out : List PD} (h1 : fi ρ = some (items, ρ1)) (hz : items.length ≤ 16777216) (h2 : wipeE ws ρ1 = some ρ2) (h3 : compD ws g (pur true) te items [] ρ2 = some (out, ρ3)) :
    eComp ws fi g (pur true) te ρ = some (.frL out, restE ws ρ1 ρ3) := by
  unfold eComp
  rw [bnd_of h1]
  have : items.length ≤ sizeLine := by rw [sizeLine_eq]; omega
  simp only [if_pos this, h2, h3]
theorem seq_nx {f g : M Out} {ρ ρ' : En} (h : f ρ = some (.nx, ρ')) : sSeq f g ρ = g ρ' := by
  unfold sSeq; rw [bnd_of h]
theorem seq_rt {f g : M Out} {ρ ρ' : En} {h : Hd} (e : f ρ = some (.rt h, ρ')) : sSeq f g ρ = some (.rt h, ρ') := by
  unfold sSeq; rw [bnd_of e]; rfl
end DL
set_option Elab.async false
set_option linter.all false
set_option maxRecDepth 100000
/-! DL: the pure programs computed, by simp. -/
namespace DL
open PySem PySem.Spec PyProof.Rows L2
@[scoped simp] theorem x_bnd {α β : Type} (m : M α) (k : α → M β) (ρ : En) : bnd m k ρ = (m ρ).bind fun p => k p.1 p.2 := by unfold bnd; cases m ρ <;> rfl
@[scoped simp] theorem x_pur {α : Type} (a : α) (ρ : En) : pur a ρ = some (a, ρ) := rfl
def eVarS (i : Nat) (ρ : En) : SV → Option (Hd × En)
  | .val d => some (.dat d, ρ)
  | .own _ => some (.slot i, ρ)
  | .bor _ => some (.slot i, ρ)
  | .odk _ => some (.slot i, ρ)
  | _ => none
@[scoped simp] theorem x_eVar (i : Nat) (ρ : En) : eVar i ρ = (ρ[i]?).bind (eVarS i ρ) := by
  unfold eVar eVarS
  cases ρ[i]? with
  | none => rfl
  | some s => cases s <;> rfl
@[scoped simp] theorem x_eVarS1 (i : Nat) (ρ : En) (d : PD) : eVarS i ρ (.val d) = some (.dat d, ρ) := rfl
@[scoped simp] theorem x_eVarS2 (i : Nat) (ρ : En) (d : List PD) : eVarS i ρ (.own d) = some (.slot i, ρ) := rfl
@[scoped simp] theorem x_eVarS3 (i : Nat) (ρ : En) (d : List PD) : eVarS i ρ (.bor d) = some (.slot i, ρ) := rfl
@[scoped simp] theorem x_eVarS4 (i : Nat) (ρ : En) (d : List (PD × PD)) : eVarS i ρ (.odk d) = some (.slot i, ρ) := rfl
def resS : SV → Option PD
  | .val d => some d
  | .own ds => some (.list ds)
  | .bor ds => some (.list ds)
  | .odk es => some (.dict es)
  | _ => none
@[scoped simp] theorem x_res_dat (ρ : En) (d : PD) : res ρ (.dat d) = some d := rfl
@[scoped simp] theorem x_res_frL (ρ : En) (d : List PD) : res ρ (.frL d) = some (.list d) := rfl
@[scoped simp] theorem x_res_frD (ρ : En) (d : List (PD × PD)) : res ρ (.frD d) = some (.dict d) := rfl
@[scoped simp] theorem x_res_slot (ρ : En) (i : Nat) : res ρ (.slot i) = (ρ[i]?).bind resS := by
  unfold res resS
  simp only
  cases ρ[i]? with
  | none => rfl
  | some s => cases s <;> rfl
@[scoped simp] theorem x_resS1 (d : PD) : resS (.val d) = some d := rfl
@[scoped simp] theorem x_resS2 (d : List PD) : resS (.own d) = some (.list d) := rfl
@[scoped simp] theorem x_resS3 (d : List PD) : resS (.bor d) = some (.list d) := rfl
@[scoped simp] theorem x_resS4 (d : List (PD × PD)) : resS (.odk d) = some (.dict d) := rfl
def frzS (i : Nat) (ρ : En) : SV → Option (PD × En)
  | .val d => some (d, ρ)
  | .own ds => some (.list ds, ρ.set i (.val (.list ds)))
  | .odk es => some (.dict es, ρ.set i (.val (.dict es)))
  | _ => none
@[scoped simp] theorem x_frz_dat (ρ : En) (d : PD) : frz (.dat d) ρ = some (d, ρ) := rfl
@[scoped simp] theorem x_frz_frL (ρ : En) (d : List PD) : frz (.frL d) ρ = some (.list d, ρ) := rfl
@[scoped simp] theorem x_frz_frD (ρ : En) (d : List (PD × PD)) : frz (.frD d) ρ = some (.dict d, ρ) := rfl
@[scoped simp] theorem x_frz_slot (ρ : En) (i : Nat) : frz (.slot i) ρ = (ρ[i]?).bind (frzS i ρ) := by
  unfold frz frzS
  simp only
  cases ρ[i]? with
  | none => rfl
  | some s => cases s <;> rfl
@[scoped simp] theorem x_frzS1 (i : Nat) (ρ : En) (d : PD) : frzS i ρ (.val d) = some (d, ρ) := rfl
@[scoped simp] theorem x_frzS2 (i : Nat) (ρ : En) (d : List PD) : frzS i ρ (.own d) = some (.list d, ρ.set i (.val (.list d))) := rfl
@[scoped simp] theorem x_frzS3 (i : Nat) (ρ : En) (d : List (PD × PD)) : frzS i ρ (.odk d) = some (.dict d, ρ.set i (.val (.dict d))) := rfl
@[scoped simp] theorem x_eC (d : PD) (ρ : En) : eC d ρ = some (.dat d, ρ) := rfl
@[scoped simp] theorem x_eNil (ρ : En) : eNil ρ = some ([], ρ) := rfl
@[scoped simp] theorem x_eCons (fa : M Hd) (fr : M (List Hd)) (ρ : En) : eCons fa fr ρ = (fa ρ).bind fun p => (fr p.2).bind fun q => some (p.1 :: q.1, q.2) := by
  unfold eCons; simp only [x_bnd, x_pur]
@[scoped simp] theorem x_resA0 (ρ : En) : resA ρ [] = some [] := rfl
@[scoped simp] theorem x_resA1 (ρ : En) (h : Hd) (hs : List Hd) : resA ρ (h :: hs) = (res ρ h).bind fun d => (resA ρ hs).bind fun ds => some (d :: ds) := by
  rw [resA]
  cases res ρ h <;> cases resA ρ hs <;> rfl
@[scoped simp] theorem x_eOp (g : List PD → Option Hd) (fa : M (List Hd)) (ρ : En) : eOp g fa ρ = (fa ρ).bind fun p => (resA p.2 p.1).bind fun ds => (g ds).bind fun h => some (h, p.2) := by
  unfold eOp
  rw [x_bnd]
  cases fa ρ with
  | none => rfl
  | some p =>
    show _ = (resA p.2 p.1).bind _
    simp only [Option.bind_some]
    cases resA p.2 p.1 with
    | none => rfl
    | some ds => simp only [Option.bind_some]; cases g ds <;> rfl
@[scoped simp] theorem x_frzA0 (ρ : En) : frzA [] ρ = some ([], ρ) := rfl
@[scoped simp] theorem x_frzA1 (h : Hd) (hs : List Hd) (ρ : En) : frzA (h :: hs) ρ = (frz h ρ).bind fun p => (frzA hs p.2).bind fun q => some (p.1 :: q.1, q.2) := by
  rw [frzA]; simp only [x_bnd, x_pur]
@[scoped simp] theorem x_eTup (fa : M (List Hd)) (ρ : En) : eTup fa ρ = (fa ρ).bind fun p => (frzA p.1 p.2).bind fun q => if q.1.length ≤ sizeLine then some (.dat (.tuple q.1), q.2) else none := by
  unfold eTup; simp only [x_bnd]
@[scoped simp] theorem x_eLst (fa : M (List Hd)) (ρ : En) : eLst fa ρ = (fa ρ).bind fun p => (frzA p.1 p.2).bind fun q => if q.1.length ≤ sizeLine then some (.frL q.1, q.2) else none := by
  unfold eLst; simp only [x_bnd]
@[scoped simp] theorem x_size : sizeLine = 16777216 := sizeLine_eq
@[scoped simp] theorem x_fits (n : Nat) : fitsLine n = decide (n ≤ 16777216) := by unfold fitsLine; rw [sizeLine_eq]
def boolOf : PD → Option Bool
  | .bool b => some b
  | _ => none
@[scoped simp] theorem x_boolOf (b : Bool) : boolOf (.bool b) = some b := rfl
@[scoped simp] theorem x_eTst (f : M Hd) (ρ : En) : eTst f ρ = (f ρ).bind fun p => (res p.2 p.1).bind fun d => (boolOf d).bind fun b => some (b, p.2) := by
  unfold eTst
  rw [x_bnd]
  cases f ρ with
  | none => rfl
  | some p =>
    simp only [Option.bind_some]
    cases res p.2 p.1 with
    | none => rfl
    | some d => cases d <;> rfl
@[scoped simp] theorem x_tNotD (f : M Bool) (ρ : En) : tNotD f ρ = (f ρ).bind fun p => some (!p.1, p.2) := by unfold tNotD; simp only [x_bnd, x_pur]
theorem ite_app {α : Type} {c : Prop} [Decidable c] (f g : M α) (ρ : En) : (if c then f else g) ρ = if c then f ρ else g ρ := by split <;> rfl
@[scoped simp] theorem x_tAndD (f g : M Bool) (ρ : En) : tAndD f g ρ = (f ρ).bind fun p => if p.1 = true then g p.2 else some (false, p.2) := by unfold tAndD; simp only [x_bnd, ite_app, x_pur]
@[scoped simp] theorem x_tOrD (f g : M Bool) (ρ : En) : tOrD f g ρ = (f ρ).bind fun p => if p.1 = true then some (true, p.2) else g p.2 := by unfold tOrD; simp only [x_bnd, ite_app, x_pur]
@[scoped simp] theorem x_eAnd (f g : M Hd) (ρ : En) : eAnd f g ρ = (eTst f ρ).bind fun p => if p.1 = true then g p.2 else some (.dat (.bool false), p.2) := by unfold eAnd; simp only [x_bnd, ite_app, x_pur]
@[scoped simp] theorem x_eOr (f g : M Hd) (ρ : En) : eOr f g ρ = (eTst f ρ).bind fun p => if p.1 = true then some (.dat (.bool true), p.2) else g p.2 := by unfold eOr; simp only [x_bnd, ite_app, x_pur]
@[scoped simp] theorem x_eNot (f : M Hd) (ρ : En) : eNot f ρ = (eTst f ρ).bind fun p => some (.dat (.bool (!p.1)), p.2) := by unfold eNot; simp only [x_bnd, x_pur]
@[scoped simp] theorem x_eIf (t : M Bool) (f g : M Hd) (ρ : En) : eIf t f g ρ = (t ρ).bind fun p => if p.1 = true then f p.2 else g p.2 := by unfold eIf; simp only [x_bnd, ite_app]
def stS (i : Nat) (h : Hd) (ρ : En) : SV → Option En
  | .bor _ => none
  | _ => putW i h ρ
@[scoped simp] theorem x_stW (i : Nat) (h : Hd) (ρ : En) : stW i h ρ = (ρ[i]?).bind (stS i h ρ) := by
  unfold stW
  cases ρ[i]? with
  | none => rfl
  | some s => cases s <;> rfl
@[scoped simp] theorem x_stS0 (i : Nat) (h : Hd) (ρ : En) : stS i h ρ .un = putW i h ρ := rfl
@[scoped simp] theorem x_stS1 (i : Nat) (h : Hd) (ρ : En) (d : PD) : stS i h ρ (.val d) = putW i h ρ := rfl
@[scoped simp] theorem x_stS2 (i : Nat) (h : Hd) (ρ : En) (d : List PD) : stS i h ρ (.own d) = putW i h ρ := rfl
@[scoped simp] theorem x_stS3 (i : Nat) (h : Hd) (ρ : En) (d : List (PD × PD)) : stS i h ρ (.odk d) = putW i h ρ := rfl
@[scoped simp] theorem x_putW1 (i : Nat) (ρ : En) (d : PD) : putW i (.dat d) ρ = some (ρ.set i (.val d)) := rfl
@[scoped simp] theorem x_putW2 (i : Nat) (ρ : En) (d : List PD) : putW i (.frL d) ρ = some (ρ.set i (.own d)) := rfl
@[scoped simp] theorem x_putW3 (i : Nat) (ρ : En) (d : List (PD × PD)) : putW i (.frD d) ρ = some (ρ.set i (.odk d)) := rfl
@[scoped simp] theorem x_putW4 (i j : Nat) (ρ : En) : putW i (.slot j) ρ = (frz (.slot j) ρ).bind fun p => some (p.2.set i (.val p.1)) := by
  unfold putW; simp only; cases frz (.slot j) ρ <;> rfl
@[scoped simp] theorem x_sSet (i : Nat) (f : M Hd) (ρ : En) : sSet i f ρ = (f ρ).bind fun p => (stW i p.1 p.2).bind fun ρ' => some (.nx, ρ') := by
  unfold sSet
  rw [x_bnd]
  cases f ρ with
  | none => rfl
  | some p => simp only [Option.bind_some]; cases stW i p.1 p.2 <;> rfl
@[scoped simp] theorem x_sRet (f : M Hd) (ρ : En) : sRet f ρ = (f ρ).bind fun p => (retH p.1 p.2).bind fun q => some (.rt q.1, q.2) := by
  unfold sRet
  rw [x_bnd]
  cases f ρ with
  | none => rfl
  | some p => simp only [Option.bind_some]; cases retH p.1 p.2 <;> rfl
def retS (i : Nat) (ρ : En) : SV → Option (Hd × En)
  | .val d => some (.dat d, ρ)
  | .own ds => some (.frL ds, ρ.set i .un)
  | .odk es => some (.frD es, ρ.set i .un)
  | _ => none
@[scoped simp] theorem x_retH_dat (ρ : En) (d : PD) : retH (.dat d) ρ = some (.dat d, ρ) := rfl
@[scoped simp] theorem x_retH_frL (ρ : En) (d : List PD) : retH (.frL d) ρ = some (.frL d, ρ) := rfl
@[scoped simp] theorem x_retH_frD (ρ : En) (d : List (PD × PD)) : retH (.frD d) ρ = some (.frD d, ρ) := rfl
@[scoped simp] theorem x_retH_slot (ρ : En) (i : Nat) : retH (.slot i) ρ = (ρ[i]?).bind (retS i ρ) := by
  unfold retH retS
  simp only
  cases ρ[i]? with
  | none => rfl
  | some s => cases s <;> rfl
@[scoped simp] theorem x_retS1 (i : Nat) (ρ : En) (d : PD) : retS i ρ (.val d) = some (.dat d, ρ) := rfl
@[scoped simp] theorem x_retS2 (i : Nat) (ρ : En) (d : List PD) : retS i ρ (.own d) = some (.frL d, ρ.set i .un) := rfl
@[scoped simp] theorem x_retS3 (i : Nat) (ρ : En) (d : List (PD × PD)) : retS i ρ (.odk d) = some (.frD d, ρ.set i .un) := rfl
@[scoped simp] theorem x_sRetN (ρ : En) : sRetN ρ = some (.rt (.dat .none), ρ) := rfl
def sqS (g : M Out) (p : Out × En) : Option (Out × En) := match p.1 with
  | .nx => g p.2
  | o => some (o, p.2)
@[scoped simp] theorem x_sSeq (f g : M Out) (ρ : En) : sSeq f g ρ = (f ρ).bind (sqS g) := by
  unfold sSeq
  rw [x_bnd]
  cases f ρ with
  | none => rfl
  | some p =>
    obtain ⟨o, ρ'⟩ := p
    cases o <;> rfl
@[scoped simp] theorem x_sqS1 (g : M Out) (ρ : En) : sqS g (.nx, ρ) = g ρ := rfl
@[scoped simp] theorem x_sqS2 (g : M Out) (ρ : En) (h : Hd) : sqS g (.rt h, ρ) = some (.rt h, ρ) := rfl
@[scoped simp] theorem x_sqS3 (g : M Out) (ρ : En) : sqS g (.bk, ρ) = some (.bk, ρ) := rfl
@[scoped simp] theorem x_sqS4 (g : M Out) (ρ : En) : sqS g (.ct, ρ) = some (.ct, ρ) := rfl
@[scoped simp] theorem x_sIf (t : M Bool) (f g : M Out) (ρ : En) : sIf t f g ρ = (t ρ).bind fun p => if p.1 = true then f p.2 else g p.2 := by unfold sIf; simp only [x_bnd, ite_app]
@[scoped simp] theorem x_sExpr (f : M Hd) (ρ : En) : sExpr f ρ = (f ρ).bind fun p => some (.nx, p.2) := by unfold sExpr; simp only [x_bnd, x_pur]
@[scoped simp] theorem x_sNx (ρ : En) : sNx ρ = some (.nx, ρ) := rfl
@[scoped simp] theorem x_sBad (ρ : En) : sBad ρ = none := rfl
@[scoped simp] theorem x_eFrz (f : M Hd) (ρ : En) : eFrz f ρ = (f ρ).bind fun p => frz p.1 p.2 := by unfold eFrz; simp only [x_bnd]
@[scoped simp] theorem x_sAsg (f : M Hd) (g : Gt) (ρ : En) : sAsg f g ρ = (eFrz f ρ).bind fun p => (g p.1 p.2).bind fun ρ' => some (.nx, ρ') := by
  unfold sAsg
  rw [x_bnd]
  cases eFrz f ρ with
  | none => rfl
  | some p => simp only [Option.bind_some]; cases g p.1 p.2 <;> rfl
@[scoped simp] theorem x_gN (i : Nat) (d : PD) (ρ : En) : gN i d ρ = stW i (.dat d) ρ := rfl
@[scoped simp] theorem x_gsN (ρ : En) : gsN [] ρ = some ρ := rfl
@[scoped simp] theorem x_gsC (g : Gt) (gs : Gts) (d : PD) (r : List PD) (ρ : En) : gsC g gs (d :: r) ρ = (g d ρ).bind (gs r) := by
  unfold gsC; simp only; cases g d ρ <;> rfl
@[scoped simp] theorem x_gT (n : Nat) (gs : Gts) (ds : List PD) (ρ : En) : gT n gs (.tuple ds) ρ = if ds.length = n then gs ds ρ else none := rfl
def augS (i : Nat) (g : Int → Int → Int) (f : M Hd) (ρ : En) : SV → Option (Out × En)
  | .val (.int x) => (f ρ).bind fun p => match p.1 with
    | .dat (.int y) => (p.2[i]?).bind fun s => match s with
      | .val _ => some (.nx, p.2.set i (.val (.int (g x y))))
      | _ => none
    | _ => none
  | _ => none
@[scoped simp] theorem x_sAug (i : Nat) (g : Int → Int → Int) (f : M Hd) (ρ : En) : sAug i g f ρ = (ρ[i]?).bind (augS i g f ρ) := by
  unfold sAug
  cases ρ[i]? with
  | none => rfl
  | some s =>
    cases s with
    | val d =>
      cases d with
      | int x =>
        simp only [Option.bind_some, augS, x_bnd]
        cases f ρ with
        | none => rfl
        | some p =>
          obtain ⟨h, ρ1⟩ := p
          simp only [Option.bind_some]
          cases h with
          | dat d =>
            cases d with
            | int y =>
              simp only
              cases ρ1[i]? with
              | none => rfl
              | some s => cases s <;> rfl
            | _ => rfl
          | _ => rfl
      | _ => rfl
    | _ => rfl
@[scoped simp] theorem x_augS (i : Nat) (g : Int → Int → Int) (f : M Hd) (ρ : En) (x : Int) : augS i g f ρ (.val (.int x)) = (f ρ).bind fun p => match p.1 with
    | .dat (.int y) => (p.2[i]?).bind fun s => match s with
      | .val _ => some (.nx, p.2.set i (.val (.int (g x y))))
      | _ => none
    | _ => none := rfl
@[scoped simp] theorem x_eCall (n : Nat) (g : List PD → Option Hd) (fa : M (List Hd)) (ρ : En) : eCall n g fa ρ = (fa ρ).bind fun p => (frzA p.1 p.2).bind fun q => if q.1.length = n then (g q.1).bind fun h => some (h, q.2) else none := by
  unfold eCall
  simp only [x_bnd]
  cases fa ρ with
  | none => rfl
  | some p =>
    simp only [Option.bind_some]
    cases frzA p.1 p.2 with
    | none => rfl
    | some q =>
      simp only [Option.bind_some]
      cases g q.1 <;> rfl
@[scoped simp] theorem x_slotL (i : Nat) (ρ : En) : slotL i ρ = (ρ[i]?).bind fun s => s.lst.bind fun cs => some (cs, ρ) := by
  unfold slotL
  cases ρ[i]? with
  | none => rfl
  | some s => simp only [Option.bind_some]; cases s.lst <;> rfl
@[scoped simp] theorem x_lst1 (d : List PD) : (SV.own d).lst = some d := rfl
@[scoped simp] theorem x_lst2 (d : List PD) : (SV.bor d).lst = some d := rfl
@[scoped simp] theorem x_put1 (d e : List PD) : (SV.own d).put e = .own e := rfl
@[scoped simp] theorem x_put2 (d e : List PD) : (SV.bor d).put e = .bor e := rfl
@[scoped simp] theorem x_eCallB (n : Nat) (g : List PD → List PD → Option (Hd × List PD)) (i : Nat) (fa : M (List Hd)) (ρ : En) : eCallB n g i fa ρ = (slotL i ρ).bind fun o => (fa o.2).bind fun p => (frzA p.1 p.2).bind fun q =>
    if q.1.length = n then (q.2[i]?).bind fun s => s.lst.bind fun cs => (g cs q.1).bind fun r => some (r.1, q.2.set i (s.put r.2)) else none := by
  unfold eCallB
  simp only [x_bnd]
  cases slotL i ρ with
  | none => rfl
  | some o =>
    simp only [Option.bind_some]
    cases fa o.2 with
    | none => rfl
    | some p =>
      simp only [Option.bind_some]
      cases frzA p.1 p.2 with
      | none => rfl
      | some q =>
        simp only [Option.bind_some]
        cases q.2[i]? with
        | none => rfl
        | some s =>
          simp only [Option.bind_some]
          cases s.lst with
          | none => rfl
          | some cs => simp only [Option.bind_some]; cases g cs q.1 <;> rfl
@[scoped simp] theorem x_eMut (u : List PD → List PD → Option (PD × List PD)) (i : Nat) (fa : M (List Hd)) (ρ : En) : eMut u i fa ρ = (slotL i ρ).bind fun o => (fa o.2).bind fun p => (frzA p.1 p.2).bind fun q =>
    (q.2[i]?).bind fun s => s.lst.bind fun cs => (u cs q.1).bind fun r => some (.dat r.1, q.2.set i (s.put r.2)) := by
  unfold eMut
  simp only [x_bnd]
  cases slotL i ρ with
  | none => rfl
  | some o =>
    simp only [Option.bind_some]
    cases fa o.2 with
    | none => rfl
    | some p =>
      simp only [Option.bind_some]
      cases frzA p.1 p.2 with
      | none => rfl
      | some q =>
        simp only [Option.bind_some]
        cases q.2[i]? with
        | none => rfl
        | some s =>
          simp only [Option.bind_some]
          cases s.lst with
          | none => rfl
          | some cs => simp only [Option.bind_some]; cases u cs q.1 <;> rfl
@[scoped simp] theorem x_uAppend (cs : List PD) (d : PD) : uAppend cs [d] = if cs.length < 16777216 then some (.none, cs ++ [d]) else none := by unfold uAppend; simp only [sizeLine_eq]
@[scoped simp] theorem x_uExtend (cs ds : List PD) : uExtend cs [.list ds] = if cs.length + ds.length ≤ 16777216 then some (.none, cs ++ ds) else none := by unfold uExtend; simp only [sizeLine_eq]
def setS (i : Nat) (ρ : En) (k : Int) (d : PD) (s : SV) : Option (Out × En) := s.lst.bind fun cs => (ixN cs.length k).bind fun j => some (.nx, ρ.set i (s.put (cs.set j d)))
def setH (i : Nat) (ρ : En) (d : PD) : Hd → Option (Out × En)
  | .dat (.int k) => (ρ[i]?).bind (setS i ρ k d)
  | _ => none
@[scoped simp] theorem x_sSetIx (i : Nat) (fk fe : M Hd) (ρ : En) : sSetIx i fk fe ρ = (slotL i ρ).bind fun o => (fe o.2).bind fun p => (frz p.1 p.2).bind fun q => (fk q.2).bind fun r => setH i r.2 q.1 r.1 := by
  unfold sSetIx
  simp only [x_bnd]
  cases slotL i ρ with
  | none => rfl
  | some o =>
    simp only [Option.bind_some]
    cases fe o.2 with
    | none => rfl
    | some p =>
      simp only [Option.bind_some]
      cases frz p.1 p.2 with
      | none => rfl
      | some q =>
        simp only [Option.bind_some]
        cases fk q.2 with
        | none => rfl
        | some r =>
          obtain ⟨h, ρ2⟩ := r
          simp only [Option.bind_some, setH]
          cases h with
          | dat d =>
            cases d with
            | int k =>
              simp only
              cases ρ2[i]? with
              | none => rfl
              | some s =>
                simp only [Option.bind_some, setS]
                cases s.lst with
                | none => rfl
                | some cs => simp only [Option.bind_some]; cases ixN cs.length k <;> rfl
            | _ => rfl
          | _ => rfl
@[scoped simp] theorem x_setH (i : Nat) (ρ : En) (d : PD) (k : Int) : setH i ρ d (.dat (.int k)) = (ρ[i]?).bind fun s => s.lst.bind fun cs => (ixN cs.length k).bind fun j => some (.nx, ρ.set i (s.put (cs.set j d))) := rfl
@[scoped simp] theorem x_eIt (f : M Hd) (ρ : En) : eIt f ρ = (eFrz f ρ).bind fun p => (seqOf p.1).bind fun ds => some (ds, p.2) := by
  unfold eIt
  rw [x_bnd]
  cases eFrz f ρ with
  | none => rfl
  | some p => simp only [Option.bind_some]; cases seqOf p.1 <;> rfl
@[scoped simp] theorem x_seqOf1 (ds : List PD) : seqOf (.list ds) = some ds := rfl
@[scoped simp] theorem x_seqOf2 (ds : List PD) : seqOf (.tuple ds) = some ds := rfl
@[scoped simp] theorem x_seqOf3 (z : Str) : seqOf (.str z) = some (chars z) := rfl
def intOf : PD → Option Int
  | .int i => some i
  | _ => none
@[scoped simp] theorem x_intOf (i : Int) : intOf (.int i) = some i := rfl
@[scoped simp] theorem x_eInt (f : M Hd) (ρ : En) : eInt f ρ = (f ρ).bind fun p => (res p.2 p.1).bind fun d => (intOf d).bind fun i => some (i, p.2) := by
  unfold eInt
  rw [x_bnd]
  cases f ρ with
  | none => rfl
  | some p =>
    simp only [Option.bind_some]
    cases res p.2 p.1 with
    | none => rfl
    | some d => cases d <;> rfl
theorem smallI_of {i : Int} (h : -1000000 ≤ i) (h' : i ≤ 1000000) : smallI i = true := by
  have e : (2 : Int) ^ 62 = 4611686018427387904 := by decide
  unfold smallI
  rw [e]
  exact cdec_iff.mpr (by omega)
theorem smallI_nat {n : Nat} (h : n ≤ 1000000) : smallI (n : Int) = true := smallI_of (by omega) (by omega)
@[scoped simp] theorem x_eRng1 (f : M Hd) (ρ : En) : eRng1 f ρ = (eInt f ρ).bind fun p => if smallI p.1 = true then some (rng 0 p.1.toNat, p.2) else none := by
  unfold eRng1; simp only [x_bnd]
@[scoped simp] theorem x_eRng2 (f g : M Hd) (ρ : En) : eRng2 f g ρ = (eInt f ρ).bind fun p => (eInt g p.2).bind fun q => if smallI p.1 = true ∧ smallI q.1 = true then some (rng p.1 (q.1 - p.1).toNat, q.2) else none := by
  unfold eRng2; simp only [x_bnd]
@[scoped simp] theorem x_eRngD (f g : M Hd) (ρ : En) : eRngD f g ρ = (eInt f ρ).bind fun p => (eInt g p.2).bind fun q => if smallI p.1 = true ∧ smallI q.1 = true then some (rngDown p.1 (p.1 - q.1).toNat, q.2) else none := by
  unfold eRngD; simp only [x_bnd]
theorem rgOk_nat {n : Nat} (h : n ≤ 1000000) : rgOk 0 (n : Int) = true := by
  unfold rgOk
  exact cdec_iff.mpr (by omega)
@[scoped simp] theorem x_eLR1 (f : M Hd) (ρ : En) : eLR1 f ρ = (eInt f ρ).bind fun p => if rgOk 0 p.1 = true then some (.frL (rng 0 p.1.toNat), p.2) else none := by unfold eLR1; simp only [x_bnd]
@[scoped simp] theorem x_oNo (ρ : En) : oNo ρ = some (none, ρ) := rfl
@[scoped simp] theorem x_oSo (f : M Hd) (ρ : En) : oSo f ρ = (f ρ).bind fun p => (res p.2 p.1).bind fun d => (intOf d).bind fun i => some (some i, p.2) := by
  unfold oSo
  rw [x_bnd]
  cases f ρ with
  | none => rfl
  | some p =>
    simp only [Option.bind_some]
    cases res p.2 p.1 with
    | none => rfl
    | some d => cases d <;> rfl
@[scoped simp] theorem x_eSl (fa : M Hd) (fl fh : M (Option Int)) (ρ : En) : eSl fa fl fh ρ = (fa ρ).bind fun p => (fl p.2).bind fun l => (fh l.2).bind fun u => (res u.2 p.1).bind fun d => (gSl d l.1 u.1).bind fun h => some (h, u.2) := by
  unfold eSl
  simp only [x_bnd]
  cases fa ρ with
  | none => rfl
  | some p =>
    simp only [Option.bind_some]
    cases fl p.2 with
    | none => rfl
    | some l =>
      simp only [Option.bind_some]
      cases fh l.2 with
      | none => rfl
      | some u =>
        simp only [Option.bind_some]
        cases res u.2 p.1 with
        | none => rfl
        | some d => simp only [Option.bind_some]; cases gSl d l.1 u.1 <;> rfl
@[scoped simp] theorem x_gSl1 (ds : List PD) (l u : Option Int) : gSl (.list ds) l u = some (.frL (cutD ds l u)) := rfl
@[scoped simp] theorem x_gSl2 (ds : List PD) (l u : Option Int) : gSl (.tuple ds) l u = some (.dat (.tuple (cutD ds l u))) := rfl
@[scoped simp] theorem x_sFor (fi : M (List PD)) (g : Gt) (fb : M Out) (ρ : En) : sFor fi g fb ρ = (fi ρ).bind fun p => forD g fb p.1 p.2 := by unfold sFor; simp only [x_bnd]
@[scoped simp] theorem x_eLast (g : List PD → Option Hd) (fb : M Hd) (hx : Hd) (ρ : En) : eLast g fb hx ρ = (fb ρ).bind fun p => (resA p.2 [hx, p.1]).bind fun ds => (g ds).bind fun h => (res [] h).bind fun d => (boolOf d).bind fun b => match h with
    | .dat _ => some (b, p.2)
    | _ => none := by
  unfold eLast
  simp only [x_bnd]
  cases fb ρ with
  | none => rfl
  | some p =>
    simp only [Option.bind_some]
    cases resA p.2 [hx, p.1] with
    | none => rfl
    | some ds =>
      simp only [Option.bind_some]
      cases g ds with
      | none => rfl
      | some h =>
        cases h with
        | dat d => cases d <;> rfl
        | slot i => rfl
        | frL _ => rfl
        | frD _ => rfl
@[scoped simp] theorem x_eLink (g : List PD → Option Hd) (fb : M Hd) (k : Hd → M Bool) (hx : Hd) (ρ : En) : eLink g fb k hx ρ = (fb ρ).bind fun p => (resA p.2 [hx, p.1]).bind fun ds => (g ds).bind fun h => (res [] h).bind fun d => (boolOf d).bind fun b => match h with
    | .dat _ => if b = true then k p.1 p.2 else some (false, p.2)
    | _ => none := by
  unfold eLink
  simp only [x_bnd]
  cases fb ρ with
  | none => rfl
  | some p =>
    simp only [Option.bind_some]
    cases resA p.2 [hx, p.1] with
    | none => rfl
    | some ds =>
      simp only [Option.bind_some]
      cases g ds with
      | none => rfl
      | some h =>
        cases h with
        | dat d => cases d <;> rfl
        | slot i => rfl
        | frL _ => rfl
        | frD _ => rfl
@[scoped simp] theorem x_eChn (fa : M Hd) (k : Hd → M Bool) (ρ : En) : eChn fa k ρ = (fa ρ).bind fun p => (k p.1 p.2).bind fun q => some (.dat (.bool q.1), q.2) := by
  unfold eChn
  simp only [x_bnd, x_pur]
  cases fa ρ <;> rfl
/-! ### operations -/
@[scoped simp] theorem x_gAdd1 (i j : Int) : gAdd [.int i, .int j] = some (.dat (.int (i + j))) := rfl
@[scoped simp] theorem x_gAdd2 (x y : List PD) : gAdd [.list x, .list y] = if x.length + y.length ≤ 16777216 then some (.frL (x ++ y)) else none := by simp only [gAdd, x_fits, decide_eq_true_eq]
@[scoped simp] theorem x_gAdd3 (x y : List PD) : gAdd [.tuple x, .tuple y] = if x.length + y.length ≤ 16777216 then some (.dat (.tuple (x ++ y))) else none := by simp only [gAdd, x_fits, decide_eq_true_eq]
@[scoped simp] theorem x_gSub (i j : Int) : gSub [.int i, .int j] = some (.dat (.int (i - j))) := rfl
@[scoped simp] theorem x_gMul (i j : Int) : gMul [.int i, .int j] = if mulOk i j = true then some (.dat (.int (i * j))) else none := rfl
@[scoped simp] theorem x_gMul2 (x : List PD) (k : Int) : gMul [.list x, .int k] = if repOk x.length k = true then some (.frL (List.replicate k.toNat x).flatten) else none := rfl
@[scoped simp] theorem x_gDiv (i j : Int) : gDiv [.int i, .int j] = if divOk j = true then some (.dat (.int (i / j))) else none := rfl
@[scoped simp] theorem x_gMod (i j : Int) : gMod [.int i, .int j] = if 0 < j then some (.dat (.int (i % j))) else none := rfl
@[scoped simp] theorem x_gPow (i j : Int) : gPow [.int i, .int j] = if powOk i j = true then some (.dat (.int (i ^ j.toNat))) else none := rfl
@[scoped simp] theorem x_gNeg (i : Int) : gNeg [.int i] = some (.dat (.int (-i))) := rfl
@[scoped simp] theorem x_gEq (a b : PD) : gEq [a, b] = (eqD a b).bind fun c => some (.dat (.bool c)) := by simp only [gEq]; cases eqD a b <;> rfl
@[scoped simp] theorem x_gNe (a b : PD) : gNe [a, b] = (eqD a b).bind fun c => some (.dat (.bool (!c))) := by simp only [gNe]; cases eqD a b <;> rfl
@[scoped simp] theorem x_eqD1 (i j : Int) : eqD (.int i) (.int j) = some (decide (i = j)) := rfl
@[scoped simp] theorem x_eqD2 (i j : Bool) : eqD (.bool i) (.bool j) = some (decide (i = j)) := rfl
@[scoped simp] theorem x_eqD3 (i j : Str) : eqD (.str i) (.str j) = some (decide (i = j)) := rfl
@[scoped simp] theorem x_gLt (i j : Int) : gLt [.int i, .int j] = some (.dat (.bool (decide (i < j)))) := rfl
@[scoped simp] theorem x_gLe (i j : Int) : gLe [.int i, .int j] = some (.dat (.bool (decide (i ≤ j)))) := rfl
@[scoped simp] theorem x_gGt (i j : Int) : gGt [.int i, .int j] = some (.dat (.bool (decide (j < i)))) := rfl
@[scoped simp] theorem x_gGe (i j : Int) : gGe [.int i, .int j] = some (.dat (.bool (decide (j ≤ i)))) := rfl
@[scoped simp] theorem x_isD1 (d : PD) : isD d .none = some (isNon d) := by cases d <;> rfl
@[scoped simp] theorem x_isD2 (i j : Bool) : isD (.bool i) (.bool j) = some (decide (i = j)) := rfl
@[scoped simp] theorem x_gIs (a b : PD) : gIs [a, b] = (isD a b).bind fun c => some (.dat (.bool c)) := by simp only [gIs]; cases isD a b <;> rfl
@[scoped simp] theorem x_gIsNot (a b : PD) : gIsNot [a, b] = (isD a b).bind fun c => some (.dat (.bool (!c))) := by simp only [gIsNot]; cases isD a b <;> rfl
@[scoped simp] theorem x_isNon0 : isNon .none = true := rfl
@[scoped simp] theorem x_isNon1 (i : Int) : isNon (.int i) = false := rfl
@[scoped simp] theorem x_isNon2 (i : Bool) : isNon (.bool i) = false := rfl
@[scoped simp] theorem x_isNon3 (i : Str) : isNon (.str i) = false := rfl
@[scoped simp] theorem x_isNon4 (i : List PD) : isNon (.list i) = false := rfl
@[scoped simp] theorem x_isNon5 (i : List PD) : isNon (.tuple i) = false := rfl
@[scoped simp] theorem x_isNon6 (i : List (PD × PD)) : isNon (.dict i) = false := rfl
@[scoped simp] theorem x_gIx1 (ds : List PD) (i : Int) : gIx [.list ds, .int i] = (atI ds i).bind fun d => some (.dat d) := by simp only [gIx]; cases atI ds i <;> rfl
@[scoped simp] theorem x_gIx2 (ds : List PD) (i : Int) : gIx [.tuple ds, .int i] = (atI ds i).bind fun d => some (.dat d) := by simp only [gIx]; cases atI ds i <;> rfl
@[scoped simp] theorem x_gLen1 (ds : List PD) : gLen [.list ds] = some (.dat (.int ds.length)) := rfl
@[scoped simp] theorem x_gLen2 (ds : List PD) : gLen [.tuple ds] = some (.dat (.int ds.length)) := rfl
@[scoped simp] theorem x_gAbs (i : Int) : gAbs [.int i] = some (.dat (.int (if i < 0 then -i else i))) := rfl
@[scoped simp] theorem x_gInt (i : Int) : gInt [.int i] = some (.dat (.int i)) := rfl
@[scoped simp] theorem x_gMax (i j : Int) : gMax [.int i, .int j] = some (.dat (.int (if j > i then j else i))) := rfl
@[scoped simp] theorem x_gMin (i j : Int) : gMin [.int i, .int j] = some (.dat (.int (if j < i then j else i))) := rfl
@[scoped simp] theorem x_gTuple1 (ds : List PD) : gTuple [.list ds] = some (.dat (.tuple ds)) := rfl
@[scoped simp] theorem x_gTuple2 (ds : List PD) : gTuple [.tuple ds] = some (.dat (.tuple ds)) := rfl
@[scoped simp] theorem x_gList1 (ds : List PD) : gList [.list ds] = some (.frL ds) := rfl
@[scoped simp] theorem x_gList2 (ds : List PD) : gList [.tuple ds] = some (.frL ds) := rfl
@[scoped simp] theorem x_gRev (ds : List PD) : gRev [.list ds] = some (.frL ds.reverse) := rfl
@[scoped simp] theorem x_gIsi (T : String) (d : PD) : gIsi T [d] = some (.dat (.bool (isiD d T))) := rfl
@[scoped simp] theorem x_isi1 (i : Int) : isiD (.int i) "int" = true := rfl
@[scoped simp] theorem x_isi2 (i : Int) : isiD (.int i) "bool" = false := rfl
@[scoped simp] theorem x_isi3 (i : List PD) : isiD (.tuple i) "tuple" = true := rfl
@[scoped simp] theorem x_isi4 : isiD .none "tuple" = false := rfl
@[scoped simp] theorem x_isi5 : isiD .none "int" = false := rfl
@[scoped simp] theorem x_divOk (j : Int) : (divOk j = true) ↔ (0 < j ∧ j < 18446744073709551616) := cdec_iff
@[scoped simp] theorem x_mulOk (i j : Int) : (mulOk i j = true) ↔ ((-18446744073709551616 < i ∧ i < 18446744073709551616) ∨ (-18446744073709551616 < j ∧ j < 18446744073709551616)) := cdec_iff
@[scoped simp] theorem x_powOk (i j : Int) : (powOk i j = true) ↔ (0 ≤ j ∧ j ≤ 1000000 ∧ i.natAbs < 18446744073709551616) := cdec_iff
theorem repOk_of {n : Nat} {k : Int} (h : 0 ≤ k) (h' : k ≤ 1000000) (hn : n * k.toNat ≤ 16777216) : repOk n k = true := cdec_iff.mpr ⟨by omega, by omega, by rw [sizeLine_eq]; exact hn⟩
def rsD : Option (Out × En) → Option Hd
  | some (.rt h, _) => some h
  | some (.nx, _) => some (.dat .none)
  | _ => none
@[scoped simp] theorem x_runD (n : Nat) (f : M Out) (ds : List PD) : runD n f ds = rsD (f (ds.map SV.val ++ List.replicate (n - ds.length) SV.un)) := by
  unfold runD rsD; cases f (ds.map SV.val ++ List.replicate (n - ds.length) SV.un) with
  | none => rfl
  | some p => obtain ⟨o, ρ⟩ := p; cases o <;> rfl
@[scoped simp] theorem x_rsD1 (h : Hd) (ρ : En) : rsD (some (.rt h, ρ)) = some h := rfl
@[scoped simp] theorem x_rsD2 (ρ : En) : rsD (some (.nx, ρ)) = some (.dat .none) := rfl
@[scoped simp] theorem x_thaw1 (d : PD) (ρ : En) : thaw (.dat d) ρ = some (.dat d, ρ) := rfl
@[scoped simp] theorem x_thaw2 (d : List PD) (ρ : En) : thaw (.frL d) ρ = some (.frL d, ρ) := rfl
@[scoped simp] theorem x_thaw3 (d : List (PD × PD)) (ρ : En) : thaw (.frD d) ρ = some (.frD d, ρ) := rfl
@[scoped simp] theorem x_thaw4 (i : Nat) (ρ : En) : thaw (.slot i) ρ = (frz (.slot i) ρ).bind fun p => some (.dat p.1, p.2) := by
  unfold thaw; simp only [x_bnd, x_pur]
@[scoped simp] theorem x_sPar (i j : Nat) (a b : M Hd) (ρ : En) : sPar i j (eCons a (eCons b eNil)) ρ = (a ρ).bind fun p => (b p.2).bind fun q => (thaw p.1 q.2).bind fun t => (thaw q.1 t.2).bind fun u => (stW i t.1 u.2).bind fun ρ1 => (stW j u.1 ρ1).bind fun ρ2 => some (.nx, ρ2) := by
  unfold sPar
  simp only [x_bnd, x_eCons, x_eNil, Option.bind_assoc, Option.bind_some]
  cases a ρ with
  | none => rfl
  | some p =>
    simp only [Option.bind_some]
    cases b p.2 with
    | none => rfl
    | some q =>
      simp only [Option.bind_some, x_bnd]
      cases thaw p.1 q.2 with
      | none => rfl
      | some t =>
        simp only [Option.bind_some, x_bnd]
        cases thaw q.1 t.2 with
        | none => rfl
        | some u =>
          simp only [Option.bind_some]
          cases stW i t.1 u.2 with
          | none => rfl
          | some ρ1 => simp only [Option.bind_some]; cases stW j u.1 ρ1 <;> rfl
@[scoped simp] theorem x_sPar3 (i j l : Nat) (a b c : M Hd) (ρ : En) : sPar3 i j l (eCons a (eCons b (eCons c eNil))) ρ = (a ρ).bind fun p => (b p.2).bind fun q => (c q.2).bind fun r => (thaw p.1 r.2).bind fun t => (thaw q.1 t.2).bind fun u => (thaw r.1 u.2).bind fun v =>
    (stW l v.1 v.2).bind fun ρ1 => (stW j u.1 ρ1).bind fun ρ2 => (stW i t.1 ρ2).bind fun ρ3 => some (.nx, ρ3) := by
  unfold sPar3
  simp only [x_bnd, x_eCons, x_eNil, Option.bind_assoc, Option.bind_some]
  cases a ρ with
  | none => rfl
  | some p =>
    simp only [Option.bind_some]
    cases b p.2 with
    | none => rfl
    | some q =>
      simp only [Option.bind_some]
      cases c q.2 with
      | none => rfl
      | some r =>
        simp only [Option.bind_some, x_bnd]
        cases thaw p.1 r.2 with
        | none => rfl
        | some t =>
          simp only [Option.bind_some, x_bnd]
          cases thaw q.1 t.2 with
          | none => rfl
          | some u =>
            simp only [Option.bind_some, x_bnd]
            cases thaw r.1 u.2 with
            | none => rfl
            | some v =>
              simp only [Option.bind_some]
              cases stW l v.1 v.2 with
              | none => rfl
              | some ρ1 =>
                simp only [Option.bind_some]
                cases stW j u.1 ρ1 with
                | none => rfl
                | some ρ2 => simp only [Option.bind_some]; cases stW i t.1 ρ2 <;> rfl
/-- a slot that may be written -/
def Fr (s : SV) : Prop := s = .un ∨ ∃ d, s = .val d
theorem Fr.un : Fr .un := .inl rfl
theorem Fr.val (d : PD) : Fr (.val d) := .inr ⟨d, rfl⟩
@[scoped simp] theorem x_stS_fr {s : SV} (h : Fr s) (i : Nat) (hd : Hd) (ρ : En) : stS i hd ρ s = putW i hd ρ := by
  rcases h with rfl | ⟨d, rfl⟩ <;> rfl
theorem wipe1 {ρ : En} {i : Nat} {s : SV} (h : ρ[i]? = some s) (f : Fr s) : wipeE [i] ρ = some (ρ.set i .un) := by
  rcases f with rfl | ⟨d, rfl⟩
  · simp only [wipeE, h]
    refine congrArg some (List.ext_getElem? fun j => ?_)
    by_cases e : i = j
    · subst e
      rw [List.getElem?_set_self (List.getElem?_eq_some_iff.mp h).1, h]
    · rw [List.getElem?_set_ne e]
  · simp only [wipeE, h]
theorem map_get {α β : Type} {f : α → β} {l : List α} {i : Nat} {d : β} (h : (l.map f)[i]? = some d) : ∃ a, l[i]? = some a ∧ d = f a := by
  rw [List.getElem?_map] at h
  cases e : l[i]? with
  | none => rw [e] at h; cases h
  | some a => rw [e] at h; cases h; exact ⟨a, rfl, rfl⟩
theorem rng_get {lo : Int} {n i : Nat} {d : PD} (h : (rng lo n)[i]? = some d) : i < n ∧ d = .int (lo + i) := by
  obtain ⟨a, h1, h2⟩ := map_get h
  by_cases hi : i < n
  · rw [List.getElem?_range hi] at h1; cases h1
    exact ⟨hi, h2⟩
  · rw [List.getElem?_eq_none (by simpa using hi)] at h1; cases h1
theorem rng_len (lo : Int) (n : Nat) : (rng lo n).length = n := by unfold rng; simp
theorem atI_of {α : Type} {l : List α} {i : Nat} (h : i < l.length) : atI l (i : Int) = some l[i] := atI_nat (List.getElem?_eq_getElem h)
theorem atI_map {α β : Type} {f : α → β} {l : List α} {i : Nat} (h : i < l.length) : atI (l.map f) (i : Int) = some (f l[i]) := by
  rw [atI_nat (j := i) (v := f l[i])]
  rw [List.getElem?_map, List.getElem?_eq_getElem h]; rfl
end DL
set_option Elab.async false
set_option linter.all false
set_option maxRecDepth 100000
/-! DL: comprehensions by places. -/
namespace DL
open PySem PySem.Spec L2
theorem comp_list {α : Type} {ws : List Nat} {g : Gt} {te : M Hd} {ρ : En} (G F : α → PD) : ∀ {l : List α} {acc : List PD}, (∀ a, a ∈ l → ∃ ρ1 ρ2, g (G a) ρ = some ρ1 ∧ eFrz te ρ1 = some (F a, ρ2) ∧ wipeE ws ρ2 = some ρ) →
    compD ws g (pur true) te (l.map G) acc ρ = some (acc ++ l.map F, ρ)
  | [], acc, _ => by simp [compD]
  | a :: r, acc, h => by
    obtain ⟨ρ1, ρ2, e1, e2, e3⟩ := h a (List.mem_cons_self ..)
    rw [List.map_cons]
    simp only [compD, pur, e1, e2, e3]
    rw [comp_list G F (l := r) fun a ha => h a (List.mem_cons_of_mem _ ha)]
    simp
theorem list_idx {α : Type} {items : List α} {n : Nat} {G : Nat → α} (hl : items.length = n) (hG : ∀ i, i < n → items[i]? = some (G i)) : items = (List.range n).map G := by
  apply List.ext_getElem?
  intro i
  by_cases h : i < n
  · rw [hG i h, List.getElem?_map, List.getElem?_range h]; rfl
  · rw [List.getElem?_eq_none (by omega), List.getElem?_eq_none (by simp; omega)]
theorem comp_idx {ws : List Nat} {g : Gt} {te : M Hd} {ρ : En} {items : List PD} {n : Nat} (G F : Nat → PD) (hl : items.length = n) (hG : ∀ i, i < n → items[i]? = some (G i))
    (h : ∀ i, i < n → ∃ ρ1 ρ2, g (G i) ρ = some ρ1 ∧ eFrz te ρ1 = some (F i, ρ2) ∧ wipeE ws ρ2 = some ρ) : compD ws g (pur true) te items [] ρ = some ((List.range n).map F, ρ) := by
  rw [list_idx hl hG, comp_list G F fun i hi => h i (List.mem_range.mp hi)]
  rfl
theorem rng_at {n i : Nat} (h : i < n) : (rng 0 n)[i]? = some (.int (i : Int)) := by
  unfold rng
  rw [List.getElem?_map, List.getElem?_range h]
  simp
theorem zip2_at {a b : List PD} {i : Nat} {x y : PD} (h1 : a[i]? = some x) (h2 : b[i]? = some y) : (zip2D a b)[i]? = some (.tuple [x, y]) := by
  unfold zip2D
  rw [List.getElem?_zipWith, h1, h2]
theorem zip3_at {a b c : List PD} {i : Nat} {x y z : PD} (h1 : a[i]? = some x) (h2 : b[i]? = some y) (h3 : c[i]? = some z) : (zip3D a b c)[i]? = some (.tuple [x, y, z]) := by
  unfold zip3D
  rw [List.getElem?_zipWith, h1, zip2_at h2 h3]
theorem zip2_len (a b : List PD) : (zip2D a b).length = min a.length b.length := by unfold zip2D; rw [List.length_zipWith]
theorem zip3_len (a b c : List PD) : (zip3D a b c).length = min a.length (min b.length c.length) := by unfold zip3D; rw [List.length_zipWith, zip2_len]
/-- the state moves within I -/
theorem comp_st {ws : List Nat} {g : Gt} {te : M Hd} {ρ : En} {items : List PD} {n : Nat} (I : En → Prop) (G F : Nat → PD) (hl : items.length = n) (hG : ∀ i, i < n → items[i]? = some (G i)) (h0 : I ρ)
    (h : ∀ i, i < n → ∀ ρ, I ρ → ∃ ρ1 ρ2 ρ3, g (G i) ρ = some ρ1 ∧ eFrz te ρ1 = some (F i, ρ2) ∧ wipeE ws ρ2 = some ρ3 ∧ I ρ3) : ∃ ρ', compD ws g (pur true) te items [] ρ = some ((List.range n).map F, ρ') ∧ I ρ' := by
  obtain ⟨out, ρ', a, b, c, e⟩ := comp_mapI (ws := ws) (g := g) (te := te) (items := items) (acc := []) (ρ := ρ) (fun _ => I) (fun i _ x => x = F i) h0 fun i d ρ e hI => by
    have hi : i < n := by rw [← hl]; exact (List.getElem?_eq_some_iff.mp e).1
    rw [hG i hi] at e; cases e
    obtain ⟨ρ1, ρ2, ρ3, q1, q2, q3, q4⟩ := h i hi ρ hI
    exact ⟨ρ1, ρ2, ρ3, F i, q1, q2, q3, rfl, q4⟩
  refine ⟨ρ', ?_, b⟩
  rw [a]
  have : out = (List.range n).map F := list_idx (by omega) fun i hi => by
    have ho : i < out.length := by omega
    rw [List.getElem?_eq_getElem ho, e i (G i) out[i] (hG i hi) (List.getElem?_eq_getElem ho)]
  rw [this]; rfl
theorem eComp_st {ws : List Nat} {fi : M (List PD)} {g : Gt} {te : M Hd} {ρ ρ1 ρ2 : En} {items : List PD} {n : Nat} (I : En → Prop) (G F : Nat → PD) (h1 : fi ρ = some (items, ρ1)) (hl : items.length = n) (hz : n ≤ 1000) (h2 : wipeE ws ρ1 = some ρ2) (hG : ∀ i, i < n → items[i]? = some (G i)) (h0 : I ρ2)
    (h : ∀ i, i < n → ∀ ρ, I ρ → ∃ ρ1 ρ2 ρ3, g (G i) ρ = some ρ1 ∧ eFrz te ρ1 = some (F i, ρ2) ∧ wipeE ws ρ2 = some ρ3 ∧ I ρ3) : ∃ ρ', eComp ws fi g (pur true) te ρ = some (.frL ((List.range n).map F), restE ws ρ1 ρ') ∧ I ρ' := by
  obtain ⟨ρ', a, b⟩ := comp_st I G F hl hG h0 h
  exact ⟨ρ', eComp_of h1 (by omega) h2 a, b⟩
/-- the whole comprehension: its slots ws are free ahead of it -/
theorem eComp_idx {ws : List Nat} {fi : M (List PD)} {g : Gt} {te : M Hd} {ρ ρ1 ρ2 : En} {items : List PD} {n : Nat} (G F : Nat → PD) (h1 : fi ρ = some (items, ρ1)) (hl : items.length = n) (hz : n ≤ 1000) (h2 : wipeE ws ρ1 = some ρ2) (hG : ∀ i, i < n → items[i]? = some (G i))
    (h : ∀ i, i < n → ∃ ρ3 ρ4, g (G i) ρ2 = some ρ3 ∧ eFrz te ρ3 = some (F i, ρ4) ∧ wipeE ws ρ4 = some ρ2) : eComp ws fi g (pur true) te ρ = some (.frL ((List.range n).map F), restE ws ρ1 ρ2) :=
  eComp_of h1 (by omega) h2 (comp_idx G F hl hG h)
@[scoped simp] theorem x_eZip2 (fa : M (List Hd)) (ρ : En) : eZip2 fa ρ = (fa ρ).bind fun p => (frzA p.1 p.2).bind fun q => (seqsD q.1).bind fun l => match l with
    | [a, b] => some (zip2D a b, q.2)
    | _ => none := by
  unfold eZip2
  simp only [x_bnd]
  cases fa ρ with
  | none => rfl
  | some p =>
    simp only [Option.bind_some]
    cases frzA p.1 p.2 with
    | none => rfl
    | some q =>
      simp only [Option.bind_some]
      cases seqsD q.1 with
      | none => rfl
      | some l =>
        match l with
        | [] => rfl
        | [_] => rfl
        | [_, _] => rfl
        | [_, _, _] => rfl
        | _ :: _ :: _ :: _ :: _ => rfl
@[scoped simp] theorem x_eZip3 (fa : M (List Hd)) (ρ : En) : eZip3 fa ρ = (fa ρ).bind fun p => (frzA p.1 p.2).bind fun q => (seqsD q.1).bind fun l => match l with
    | [a, b, c] => some (zip3D a b c, q.2)
    | _ => none := by
  unfold eZip3
  simp only [x_bnd]
  cases fa ρ with
  | none => rfl
  | some p =>
    simp only [Option.bind_some]
    cases frzA p.1 p.2 with
    | none => rfl
    | some q =>
      simp only [Option.bind_some]
      cases seqsD q.1 with
      | none => rfl
      | some l =>
        match l with
        | [] => rfl
        | [_] => rfl
        | [_, _] => rfl
        | [_, _, _] => rfl
        | _ :: _ :: _ :: _ :: _ => rfl
@[scoped simp] theorem x_seqs0 : seqsD [] = some [] := rfl
@[scoped simp] theorem x_seqs1 (d : PD) (r : List PD) : seqsD (d :: r) = (seqOf d).bind fun x => (seqsD r).bind fun xs => some (x :: xs) := by
  rw [seqsD]
  cases seqOf d <;> cases seqsD r <;> rfl
@[scoped simp] theorem x_wipe0 (ρ : En) : wipeE [] ρ = some ρ := rfl
def wpS (i : Nat) (ρ : En) : SV → Option En
  | .un => some ρ
  | .val _ => some (ρ.set i .un)
  | _ => none
@[scoped simp] theorem x_wipe1 (i : Nat) (r : List Nat) (ρ : En) : wipeE (i :: r) ρ = ((ρ[i]?).bind (wpS i ρ)).bind (wipeE r) := by
  rw [wipeE]
  cases ρ[i]? with
  | none => rfl
  | some s => cases s <;> rfl
@[scoped simp] theorem x_wpS1 (i : Nat) (ρ : En) : wpS i ρ .un = some ρ := rfl
@[scoped simp] theorem x_wpS2 (i : Nat) (ρ : En) (d : PD) : wpS i ρ (.val d) = some (ρ.set i .un) := rfl
@[scoped simp] theorem x_rest0 (ρ ρ0 : En) : restE [] ρ0 ρ = ρ := rfl
@[scoped simp] theorem x_rest1 (i : Nat) (r : List Nat) (ρ ρ0 : En) : restE (i :: r) ρ0 ρ = restE r ρ0 (ρ.set i (ρ0[i]?.getD .un)) := rfl
end DL
set_option Elab.async false
set_option linter.all false
set_option maxRecDepth 100000
namespace K07
open PySem PySem.Spec L2 DL
/-! ### what is meant -/
abbrev Nt := List (Int × Int)
def nt (ns : Nt) : PD := .tuple (ns.map pairD)
/-- notes that are well shaped -/
structure Ok (ns : Nt) : Prop where
  len : ns.length ≤ 30
  all : ∀ p ∈ ns, 0 ≤ p.1 ∧ p.1 ≤ 1000 ∧ 1 ≤ p.2 ∧ p.2 ≤ 50
def A (ns : Nt) (i : Nat) : Int := ((ns.take i).map (·.2)).sum
def W (ns : Nt) (i : Nat) : Int := ((ns[i]?).getD (0, 0)).1
def Hh (ns : Nt) (i : Nat) : Int := ((ns[i]?).getD (0, 0)).2
theorem A0 (ns : Nt) : A ns 0 = 0 := rfl
theorem A_succ {ns : Nt} {i : Nat} {p : Int × Int} (h : ns[i]? = some p) : A ns (i + 1) = A ns i + p.2 := by
  unfold A
  rw [List.take_add_one, h]
  simp
theorem W_of {ns : Nt} {i : Nat} {p : Int × Int} (h : ns[i]? = some p) : W ns i = p.1 := by unfold W; rw [h]; rfl
theorem H_of {ns : Nt} {i : Nat} {p : Int × Int} (h : ns[i]? = some p) : Hh ns i = p.2 := by unfold Hh; rw [h]; rfl
/-- the excess of a pair -/
def ex (ns : Nt) (f l : Nat) : Int := W ns f + A ns l - A ns f - W ns l
def top (ns : Nt) (l : Nat) : Int := A ns l - W ns l
def iL (l : List Int) : List PD := l.map PyData.int
def heads (ns : Nt) (n : Nat) : List Int := (List.range n).map (A ns)
theorem heads_succ (ns : Nt) (n : Nat) : heads ns (n + 1) = heads ns n ++ [A ns n] := by
  unfold heads; rw [List.range_succ, List.map_append]; rfl
theorem heads_len (ns : Nt) (n : Nat) : (heads ns n).length = n := by unfold heads; simp
theorem iL_app (a b : List Int) : iL (a ++ b) = iL a ++ iL b := List.map_append ..
theorem iL_len (a : List Int) : (iL a).length = a.length := List.length_map ..
theorem heads_at {ns : Nt} {n i : Nat} (h : i < n) : atI (iL (heads ns n)) (i : Int) = some (.int (A ns i)) := by
  have : i < (heads ns n).length := by rw [heads_len]; exact h
  unfold iL
  rw [atI_map this]
  congr 2
  show (heads ns n)[i] = A ns i
  simp only [heads, List.getElem_map, List.getElem_range]
theorem nt_at {ns : Nt} {i : Nat} {p : Int × Int} (h : ns[i]? = some p) : atI (ns.map pairD) (i : Int) = some (pairD p) := by
  rw [atI_nat (j := i) (v := pairD p)]
  rw [List.getElem?_map, h]; rfl
theorem pair0 (p : Int × Int) : gIx [pairD p, .int 0] = some (.dat (.int p.1)) := rfl
theorem pair1 (p : Int × Int) : gIx [pairD p, .int 1] = some (.dat (.int p.2)) := rfl
theorem gT2 (i j : Nat) (p : Int × Int) (ρ : En) : gT 2 (gsC (gN i) (gsC (gN j) gsN)) (pairD p) ρ = (stW i (.dat (.int p.1)) ρ).bind fun ρ1 => stW j (.dat (.int p.2)) ρ1 := by
  unfold pairD
  simp
  congr 1
  funext ρ1
  simp only [x_gsC, x_gN, x_stW]
  cases ρ1[j]?.bind (stS j (.dat (.int p.2)) ρ1) <;> rfl

@[scoped simp] theorem len_nt (ns : Nt) : gLen [nt ns] = some (.dat (.int ns.length)) := by
  show gLen [.tuple _] = _
  rw [x_gLen2, List.length_map]
@[scoped simp] theorem seq_nt (ns : Nt) : seqOf (nt ns) = some (ns.map pairD) := rfl
@[scoped simp] theorem isi_nt (ns : Nt) : isiD (nt ns) "tuple" = true := rfl
@[scoped simp] theorem ix_nt {ns : Nt} (i : Int) : gIx [nt ns, .int i] = (atI (ns.map pairD) i).bind fun d => some (.dat d) := x_gIx2 _ _
/-! ### checks -/
@[scoped simp] theorem is_integer_int (i : Int) : V_is_integer [.int i] = some (.dat (.bool true)) := by
  simp [V_is_integer]
@[scoped simp] theorem is_within_int (i a b : Int) : V_is_within [.int i, .int a, .int b] = some (.dat (.bool (decide (a ≤ i) && decide (i ≤ b)))) := by
  simp [V_is_within]
  by_cases h : a ≤ i <;> simp [h]
@[scoped simp] theorem is_tuple_of_t (ds : List PD) (n : Int) : V_is_tuple_of [.tuple ds, .int n] = some (.dat (.bool (decide ((ds.length : Int) = n)))) := by
  simp [V_is_tuple_of]
theorem check_ok {ns : Nt} (h : Ok ns) : V_check_notes [nt ns] = some (.dat .none) := by
  have hl := h.len
  have loop : ∀ s, Fr s → ∃ ρ', forD (gN 1) B_check_notes_1 (ns.map pairD) [SV.val (nt ns), s] = some (.nx, ρ') ∧ ∃ s', Fr s' ∧ ρ' = [SV.val (nt ns), s'] := fun s hs => by
    refine forD_all (fun _ ρ => ∃ s', Fr s' ∧ ρ = [SV.val (nt ns), s']) ⟨s, hs, rfl⟩ fun i d ρ e ⟨s', hs', eρ⟩ => ?_
    obtain ⟨p, hp, rfl⟩ := map_get e
    subst eρ
    have hv := h.all p (List.mem_of_getElem? hp)
    refine ⟨[.val (nt ns), .val (pairD p)], [.val (nt ns), .val (pairD p)], by simp [hs'], ?_, _, Fr.val _, rfl⟩
    have t2 : V_is_tuple_of [pairD p, .int 2] = some (.dat (.bool true)) := is_tuple_of_t [.int p.1, .int p.2] 2
    simp [t2, pair0, pair1, hv]
  unfold V_check_notes
  obtain ⟨ρ', e1, s', _, rfl⟩ := loop .un Fr.un
  have : ¬ (30 : Int) < ns.length := by omega
  simp [this, e1]
theorem ahead_ok {ns : Nt} (h : Ok ns) : V_heights_ahead [nt ns] = some (.frL (iL (heads ns ns.length))) := by
  have hl := h.len
  obtain ⟨ρ', e1, s3, s4, _, _, rfl⟩ := forD_all (g := gT 2 (gsC (gN 3) (gsC (gN 4) gsN))) (fb := B_heights_ahead_1) (items := ns.map pairD) (ρ := [.val (nt ns), .own (iL (heads ns 0)), .val (.int 0), .un, .un])
    (fun i ρ => ∃ s3 s4, Fr s3 ∧ Fr s4 ∧ ρ = [.val (nt ns), .own (iL (heads ns i)), .val (.int (A ns i)), s3, s4]) ⟨.un, .un, Fr.un, Fr.un, rfl⟩ fun i d ρ e ⟨s3, s4, h3, h4, eρ⟩ => by
      obtain ⟨p, hp, rfl⟩ := map_get e
      subst eρ
      have hi : i < ns.length := (List.getElem?_eq_some_iff.mp hp).1
      refine ⟨[.val (nt ns), .own (iL (heads ns i)), .val (.int (A ns i)), .val (.int p.1), .val (.int p.2)], _, ?_, ?_, .val (.int p.1), .val (.int p.2), Fr.val _, Fr.val _, rfl⟩
      · rw [gT2]; simp [h3, h4]
      · have : (heads ns i).length < 16777216 := by rw [heads_len]; omega
        simp [iL_len, this, heads_succ, iL_app, A_succ hp, iL]
  rw [List.length_map] at e1
  rw [show iL (heads ns 0) = [] from rfl] at e1
  unfold V_heights_ahead
  simp [e1]
end K07
set_option Elab.async false
set_option linter.all false
set_option maxRecDepth 100000
namespace K07
open PySem PySem.Spec L2 DL
theorem W_get {ns : Nt} {i : Nat} (h : i < ns.length) : ns[i]? = some (W ns i, Hh ns i) := by
  rw [List.getElem?_eq_getElem h]
  unfold W Hh
  rw [List.getElem?_eq_getElem h]
  rfl
@[scoped simp] theorem ex_ok {ns : Nt} (h : Ok ns) {f l : Nat} (hf : f < ns.length) (hl : l < ns.length) : V_excess_of [nt ns, .int (f : Int), .int (l : Int)] = some (.dat (.int (ex ns f l))) := by
  have h1 := nt_at (W_get hf)
  have h2 := nt_at (W_get hl)
  have h3 := heads_at (ns := ns) hf
  have h4 := heads_at (ns := ns) hl
  have hz := h.len
  unfold V_excess_of
  simp [ahead_ok h, h1, h2, h3, h4, pair0, ex]
@[scoped simp] theorem top_ok {ns : Nt} (h : Ok ns) {l : Nat} (hl : l < ns.length) : V_top_excess [nt ns, .int (l : Int)] = some (.dat (.int (top ns l))) := by
  have h2 := nt_at (W_get hl)
  have h4 := heads_at (ns := ns) hl
  unfold V_top_excess
  simp [ahead_ok h, h2, h4, pair0, top]
def half (ns : Nt) (f l : Nat) : Int := (ex ns f l + 1) / 2
def cands (ns : Nt) (k : Nat) : List Int := 0 :: (List.range k).flatMap fun l => top ns l :: (List.range l).map fun f => half ns f l
def least (ns : Nt) : Int := maxI (cands ns ns.length)
theorem cands_succ (ns : Nt) (k : Nat) : cands ns (k + 1) = cands ns k ++ (top ns k :: (List.range k).map fun f => half ns f k) := by
  unfold cands
  rw [List.range_succ, List.flatMap_append]
  simp
theorem cands_len {ns : Nt} : ∀ k, k ≤ 30 → (cands ns k).length ≤ 1 + k * 31
  | 0, _ => by simp [cands]
  | k + 1, h => by
    have := cands_len (ns := ns) k (by omega)
    rw [cands_succ, List.length_append, List.length_cons, List.length_map, List.length_range]
    omega
theorem map_succ (f : Nat → Int) (n : Nat) : (List.range (n + 1)).map f = (List.range n).map f ++ [f n] := by rw [List.range_succ, List.map_append]; rfl
theorem intsD_iL (l : List Int) : intsD (iL l) = some l := intsD_map l
theorem gMax_iL {l : List Int} (h : l ≠ []) : gMax [.list (iL l)] = some (.dat (.int (maxI l))) := by
  cases l with
  | nil => exact absurd rfl h
  | cons a r =>
    unfold gMax
    simp only
    rw [intsD_iL]
theorem inner_ok {ns : Nt} (h : Ok ns) {l : Nat} (hl : l < ns.length) (acc : List Int) (ha : acc.length ≤ 2000) (s : SV) (hs : Fr s) : ∃ ρ', forD (gN 3) B_raw_least_1 (rng 0 l) [.val (nt ns), .own (iL acc), .val (.int (l : Int)), s] = some (.nx, ρ') ∧
    ∃ s', Fr s' ∧ ρ' = [.val (nt ns), .own (iL (acc ++ (List.range l).map fun f => half ns f l)), .val (.int (l : Int)), s'] := by
  have hz := h.len
  obtain ⟨ρ', e1, s', f', e2⟩ := forD_all (g := gN 3) (fb := B_raw_least_1) (items := rng 0 l) (ρ := [.val (nt ns), .own (iL acc), .val (.int (l : Int)), s])
    (fun i ρ => ∃ s', Fr s' ∧ ρ = [.val (nt ns), .own (iL (acc ++ (List.range i).map fun f => half ns f l)), .val (.int (l : Int)), s']) ⟨s, hs, by simp⟩ fun i d ρ e ⟨s', h3, eρ⟩ => by
      obtain ⟨hi, rfl⟩ := rng_get e
      subst eρ
      refine ⟨[.val (nt ns), .own (iL (acc ++ (List.range i).map fun f => half ns f l)), .val (.int (l : Int)), .val (.int (i : Int))], _, by simp [h3], ?_, .val (.int (i : Int)), Fr.val _, rfl⟩
      have : (iL (acc ++ (List.range i).map fun f => half ns f l)).length < 16777216 := by rw [iL_len, List.length_append, List.length_map, List.length_range]; omega
      simp only [x_sExpr, x_eMut, x_slotL]
      simp [ex_ok h (show i < ns.length by omega) hl]
      rw [if_pos this]
      simp [map_succ, iL, half]
  refine ⟨ρ', e1, s', f', ?_⟩
  rw [rng_len] at e2
  exact e2
theorem outer_ok {ns : Nt} (h : Ok ns) : ∃ ρ', forD (gN 2) B_raw_least_2 (rng 0 ns.length) [.val (nt ns), .own (iL (cands ns 0)), .un, .un] = some (.nx, ρ') ∧ ∃ s2 s3, ρ' = [.val (nt ns), .own (iL (cands ns ns.length)), s2, s3] := by
  have hz := h.len
  obtain ⟨ρ', e1, s2, s3, _, _, e2⟩ := forD_all (g := gN 2) (fb := B_raw_least_2) (items := rng 0 ns.length) (ρ := [.val (nt ns), .own (iL (cands ns 0)), .un, .un])
    (fun i ρ => ∃ s2 s3, Fr s2 ∧ Fr s3 ∧ ρ = [.val (nt ns), .own (iL (cands ns i)), s2, s3]) ⟨.un, .un, Fr.un, Fr.un, rfl⟩ fun i d ρ e ⟨s2, s3, h2, h3, eρ⟩ => by
      obtain ⟨hi, rfl⟩ := rng_get e
      subst eρ
      have hc := cands_len (ns := ns) i (by omega)
      obtain ⟨ρ', e1, s', f', rfl⟩ := inner_ok h hi (cands ns i ++ [top ns i]) (by simp; omega) s3 h3
      refine ⟨[.val (nt ns), .own (iL (cands ns i)), .val (.int (i : Int)), s3], _, by simp [h2], ?_, .val (.int (i : Int)), s', Fr.val _, f', rfl⟩
      have : (iL (cands ns i)).length < 16777216 := by rw [iL_len]; omega
      have hs := smallI_nat (n := i) (by omega)
      simp [top_ok h hi, this, hs]
      rw [show iL (cands ns i) ++ [PyData.int (top ns i)] = iL (cands ns i ++ [top ns i]) by simp [iL], e1, cands_succ]
      simp
  rw [rng_len] at e2
  exact ⟨ρ', e1, s2, s3, e2⟩
theorem least_ok {ns : Nt} (h : Ok ns) : V_raw_least [nt ns] = some (.dat (.int (least ns))) := by
  have hz := h.len
  obtain ⟨ρ', e1, s2, s3, rfl⟩ := outer_ok h
  rw [show iL (cands ns 0) = [PyData.int 0] from rfl] at e1
  have hs := smallI_nat (n := ns.length) (by omega)
  have hm := gMax_iL (l := cands ns ns.length) (by simp [cands])
  have e0 : V_raw_least [nt ns] = rsD (B_raw_least [.val (nt ns), .un, .un, .un]) := by
    unfold V_raw_least
    rw [x_runD]
    rfl
  rw [e0]
  simp [hs, e1, hm, least]
end K07
set_option Elab.async false
set_option linter.all false
set_option maxRecDepth 100000
namespace K07
open PySem PySem.Spec L2 DL
theorem iL_last (l : List Int) (x : Int) : atI (iL (l ++ [x])) (-1) = some (.int x) := by
  rw [iL_app]
  exact atI_last _ _
theorem lahead_ok {ns : Nt} (h : Ok ns) : V__law_ahead [nt ns] = some (.frL (iL (heads ns (ns.length + 1)))) := by
  have hl := h.len
  obtain ⟨ρ', e1, s3, s4, _, _, rfl⟩ := forD_all (g := gT 2 (gsC (gN 2) (gsC (gN 3) gsN))) (fb := B__law_ahead_1) (items := ns.map pairD) (ρ := [.val (nt ns), .own (iL (heads ns 1)), .un, .un])
    (fun i ρ => ∃ s3 s4, Fr s3 ∧ Fr s4 ∧ ρ = [.val (nt ns), .own (iL (heads ns (i + 1))), s3, s4]) ⟨.un, .un, Fr.un, Fr.un, rfl⟩ fun i d ρ e ⟨s3, s4, h3, h4, eρ⟩ => by
      obtain ⟨p, hp, rfl⟩ := map_get e
      subst eρ
      have hi : i < ns.length := (List.getElem?_eq_some_iff.mp hp).1
      refine ⟨[.val (nt ns), .own (iL (heads ns (i + 1))), .val (.int p.1), .val (.int p.2)], _, ?_, ?_, .val (.int p.1), .val (.int p.2), Fr.val _, Fr.val _, rfl⟩
      · rw [gT2]; simp [h3, h4]
      · have t1 : (iL (heads ns (i + 1))).length < 16777216 := by rw [iL_len, heads_len]; omega
        have t2 : atI (iL (heads ns (i + 1))) (-1) = some (.int (A ns i)) := by rw [heads_succ]; exact iL_last _ _
        simp [t1, t2]
        rw [heads_succ ns (i + 1), iL_app, A_succ hp]
        rfl
  rw [List.length_map] at e1
  rw [show iL (heads ns 1) = [PyData.int 0] from rfl] at e1
  unfold V__law_ahead
  simp [e1]
theorem lover_ok {ns : Nt} {f l : Nat} (hf : f < ns.length) (hl : l < ns.length) {m : Nat} (hm : ns.length ≤ m) : V__law_over [nt ns, .list (iL (heads ns m)), .int (f : Int), .int (l : Int)] = some (.dat (.int (ex ns f l))) := by
  have h1 := nt_at (W_get hf)
  have h2 := nt_at (W_get hl)
  have h3 := heads_at (ns := ns) (n := m) (i := f) (by omega)
  have h4 := heads_at (ns := ns) (n := m) (i := l) (by omega)
  unfold V__law_over
  simp [h1, h2, h3, h4, pair0, ex]
/-- the law's candidates -/
def candsL (ns : Nt) (k : Nat) : List Int := (0 :: (List.range ns.length).map (top ns)) ++ (List.range k).flatMap fun l => (List.range l).map fun f => half ns f l
theorem candsL_succ (ns : Nt) (k : Nat) : candsL ns (k + 1) = candsL ns k ++ (List.range k).map fun f => half ns f k := by
  unfold candsL
  rw [List.range_succ, List.flatMap_append]
  simp
theorem candsL_len {ns : Nt} (h : ns.length ≤ 30) : ∀ k, k ≤ 30 → (candsL ns k).length ≤ 31 + k * 30
  | 0, _ => by simp [candsL]; omega
  | k + 1, hk => by
    have := candsL_len h k (by omega)
    rw [candsL_succ, List.length_append, List.length_map, List.length_range]
    omega
theorem cands_mem {ns : Nt} {k : Nat} {x : Int} : x ∈ cands ns k ↔ x = 0 ∨ (∃ l, l < k ∧ x = top ns l) ∨ ∃ l f, l < k ∧ f < l ∧ x = half ns f l := by
  unfold cands
  simp only [List.mem_cons, List.mem_flatMap, List.mem_range, List.mem_map]
  constructor
  · rintro (h | ⟨l, hl, h | ⟨f, hf, h⟩⟩)
    · exact .inl h
    · exact .inr (.inl ⟨l, hl, h⟩)
    · exact .inr (.inr ⟨l, f, hl, hf, h.symm⟩)
  · rintro (h | ⟨l, hl, h⟩ | ⟨l, f, hl, hf, h⟩)
    · exact .inl h
    · exact .inr ⟨l, hl, .inl h⟩
    · exact .inr ⟨l, hl, .inr ⟨f, hf, h.symm⟩⟩
theorem candsL_mem {ns : Nt} {x : Int} : x ∈ candsL ns ns.length ↔ x ∈ cands ns ns.length := by
  rw [cands_mem]
  unfold candsL
  simp only [List.mem_append, List.mem_cons, List.mem_flatMap, List.mem_range, List.mem_map]
  constructor
  · rintro ((h | ⟨l, hl, h⟩) | ⟨l, hl, f, hf, h⟩)
    · exact .inl h
    · exact .inr (.inl ⟨l, hl, h.symm⟩)
    · exact .inr (.inr ⟨l, f, hl, hf, h.symm⟩)
  · rintro (h | ⟨l, hl, h⟩ | ⟨l, f, hl, hf, h⟩)
    · exact .inl (.inl h)
    · exact .inl (.inr ⟨l, hl, h.symm⟩)
    · exact .inr ⟨l, hl, f, hf, h.symm⟩
theorem maxI_same {l m : List Int} (hl : l ≠ []) (h : ∀ x, x ∈ l ↔ x ∈ m) : maxI l = maxI m := by
  have h1 := maxI_mem hl
  exact (maxI_eq ((h _).mp h1) fun y hy => maxI_ge ((h y).mpr hy)).symm
theorem lleast_ok {ns : Nt} (h : Ok ns) : V__law_least [nt ns] = some (.dat (.int (least ns))) := by
  have hz := h.len
  have hs := smallI_nat (n := ns.length) (by omega)
  have tops : ∀ r4 : SV, eComp [3] (eRng1 (eOp gLen (eCons (eVar 0) eNil))) (gN 3) (pur true) B__law_least_1 [.val (nt ns), .own (iL (heads ns (ns.length + 1))), .un, .un, r4] = some (.frL (iL ((List.range ns.length).map (top ns))), [.val (nt ns), .own (iL (heads ns (ns.length + 1))), .un, .un, r4]) := fun r4 => by
    rw [eComp_idx (n := ns.length) (ρ1 := [.val (nt ns), .own (iL (heads ns (ns.length + 1))), .un, .un, r4]) (ρ2 := [.val (nt ns), .own (iL (heads ns (ns.length + 1))), .un, .un, r4]) (items := rng 0 ns.length) (fun i => .int (i : Int)) (fun i => .int (top ns i)) (by simp [hs]) (rng_len _ _) (by omega) (by simp) (fun i hi => rng_at hi) fun i hi => ?_]
    · simp [iL]
    · have h2 := nt_at (W_get hi)
      have h4 := heads_at (ns := ns) (n := ns.length + 1) (i := i) (by omega)
      refine ⟨[.val (nt ns), .own (iL (heads ns (ns.length + 1))), .un, .val (.int (i : Int)), r4], [.val (nt ns), .own (iL (heads ns (ns.length + 1))), .un, .val (.int (i : Int)), r4], by simp, ?_, by simp⟩
      simp [h2, h4, pair0, top]
  have inner : ∀ (i : Nat) (hi : i < ns.length) (a : SV), (a = SV.own (iL (heads ns (ns.length + 1))) ∨ a = .val (.list (iL (heads ns (ns.length + 1))))) → ∃ a', (a' = SV.own (iL (heads ns (ns.length + 1))) ∨ a' = .val (.list (iL (heads ns (ns.length + 1))))) ∧
      eComp [4] (eRng1 (eVar 3)) (gN 4) (pur true) B__law_least_2 [.val (nt ns), a, .own (iL (candsL ns i)), .val (.int (i : Int)), .un] = some (.frL (iL ((List.range i).map fun f => half ns f i)), [.val (nt ns), a', .own (iL (candsL ns i)), .val (.int (i : Int)), .un]) := fun i hi a ha => by
    have hs' := smallI_nat (n := i) (by omega)
    obtain ⟨ρ', e1, a', ha', rfl⟩ := eComp_st (ws := [4]) (fi := eRng1 (eVar 3)) (g := gN 4) (te := B__law_least_2) (ρ := [.val (nt ns), a, .own (iL (candsL ns i)), .val (.int (i : Int)), .un]) (n := i) (ρ1 := [.val (nt ns), a, .own (iL (candsL ns i)), .val (.int (i : Int)), .un]) (ρ2 := [.val (nt ns), a, .own (iL (candsL ns i)), .val (.int (i : Int)), .un]) (items := rng 0 i)
      (fun ρ => ∃ a', (a' = SV.own (iL (heads ns (ns.length + 1))) ∨ a' = .val (.list (iL (heads ns (ns.length + 1))))) ∧ ρ = [.val (nt ns), a', .own (iL (candsL ns i)), .val (.int (i : Int)), .un]) (fun j => .int (j : Int)) (fun j => .int (half ns j i)) (by simp [hs']) (rng_len _ _) (by omega) (by simp) (fun j hj => rng_at hj) ⟨a, ha, rfl⟩ fun j hj ρ ⟨a', ha', eρ⟩ => by
        subst eρ
        have ho := lover_ok (ns := ns) (f := j) (l := i) (by omega) hi (m := ns.length + 1) (by omega)
        refine ⟨[.val (nt ns), a', .own (iL (candsL ns i)), .val (.int (i : Int)), .val (.int (j : Int))], [.val (nt ns), .val (.list (iL (heads ns (ns.length + 1)))), .own (iL (candsL ns i)), .val (.int (i : Int)), .val (.int (j : Int))], [.val (nt ns), .val (.list (iL (heads ns (ns.length + 1)))), .own (iL (candsL ns i)), .val (.int (i : Int)), .un], by simp, ?_, by simp, _, .inr rfl, rfl⟩
        rcases ha' with rfl | rfl <;> simp [ho, half]
    refine ⟨a', ha', ?_⟩
    rw [e1]
    simp [iL]
  obtain ⟨ρ', e1, a, s3, _, _, rfl⟩ := forD_all (g := gN 3) (fb := B__law_least_3) (items := rng 0 ns.length) (ρ := [.val (nt ns), .own (iL (heads ns (ns.length + 1))), .own (iL (candsL ns 0)), .un, .un])
    (fun i ρ => ∃ a s3, (a = .own (iL (heads ns (ns.length + 1))) ∨ a = .val (.list (iL (heads ns (ns.length + 1))))) ∧ Fr s3 ∧ ρ = [.val (nt ns), a, .own (iL (candsL ns i)), s3, .un]) ⟨_, .un, .inl rfl, Fr.un, rfl⟩ fun i d ρ e ⟨a, s3, ha, h3, eρ⟩ => by
      obtain ⟨hi, rfl⟩ := rng_get e
      subst eρ
      obtain ⟨a', ha', ei⟩ := inner i hi a ha
      have hc := candsL_len (ns := ns) hz i (by omega)
      refine ⟨[.val (nt ns), a, .own (iL (candsL ns i)), .val (.int (i : Int)), .un], [.val (nt ns), a', .own (iL (candsL ns (i + 1))), .val (.int (i : Int)), .un], by simp [h3], ?_, a', _, ha', Fr.val _, rfl⟩
      have t1 : (iL (candsL ns i)).length + (iL ((List.range i).map fun f => half ns f i)).length ≤ 16777216 := by rw [iL_len, iL_len, List.length_map, List.length_range]; omega
      simp [ei, t1, candsL_succ, iL_app]
  rw [rng_len] at e1
  have e2 : iL (candsL ns 0) = PyData.int 0 :: iL ((List.range ns.length).map (top ns)) := by simp [candsL, iL]
  rw [e2] at e1
  have hm := gMax_iL (l := candsL ns ns.length) (by simp [candsL])
  rw [maxI_same (m := cands ns ns.length) (by simp [candsL]) fun x => candsL_mem] at hm
  have t2 : (iL ((List.range ns.length).map (top ns))).length + 1 ≤ 16777216 := by rw [iL_len, List.length_map, List.length_range]; omega
  unfold V__law_least
  simp [lahead_ok h, tops]
  simp [Nat.add_comm 1, t2, hs, e1, hm, least]
end K07
set_option Elab.async false
set_option linter.all false
set_option maxRecDepth 100000
namespace K07
open PySem PySem.Spec L2 DL
def tp (t : List Int) : PD := .tuple (iL t)
def T (t : List Int) (i : Nat) : Int := (t[i]?).getD 0
theorem T_get {t : List Int} {i : Nat} (h : i < t.length) : t[i]? = some (T t i) := by
  unfold T
  rw [List.getElem?_eq_getElem h]; rfl
theorem iL_get {t : List Int} {i : Nat} (h : i < t.length) : (iL t)[i]? = some (.int (T t i)) := by
  unfold iL
  rw [List.getElem?_map, T_get h]; rfl
theorem iL_at {t : List Int} {i : Nat} (h : i < t.length) : atI (iL t) (i : Int) = some (.int (T t i)) := atI_nat (iL_get h)
@[scoped simp] theorem len_tp (t : List Int) : gLen [tp t] = some (.dat (.int t.length)) := by
  show gLen [.tuple _] = _
  rw [x_gLen2, iL_len]
@[scoped simp] theorem seq_tp (t : List Int) : seqOf (tp t) = some (iL t) := rfl
@[scoped simp] theorem isi_tp (t : List Int) : isiD (tp t) "tuple" = true := rfl
@[scoped simp] theorem ix_tp (t : List Int) (i : Int) : gIx [tp t, .int i] = (atI (iL t) i).bind fun d => some (.dat d) := x_gIx2 _ _
@[scoped simp] theorem sl_tp (t : List Int) (l u : Option Int) : gSl (tp t) l u = some (.dat (.tuple (cutD (iL t) l u))) := rfl
theorem gAll_map (n : Nat) (b : Nat → Bool) : gAll [.list ((List.range n).map fun i => .bool (b i))] = some (.dat (.bool ((List.range n).all b))) := by
  have : ((List.range n).map fun i => PyData.bool (b i)) = ((List.range n).map b).map PyData.bool := by rw [List.map_map]; rfl
  unfold gAll
  simp only
  rw [this, boolsD_map]
  simp
theorem gAny_map (n : Nat) (b : Nat → Bool) : gAny [.list ((List.range n).map fun i => .bool (b i))] = some (.dat (.bool ((List.range n).any b))) := by
  have : ((List.range n).map fun i => PyData.bool (b i)) = ((List.range n).map b).map PyData.bool := by rw [List.map_map]; rfl
  unfold gAny
  simp only
  rw [this, boolsD_map]
  simp
theorem iL_map (n : Nat) (f : Nat → Int) : ((List.range n).map fun i => PyData.int (f i)) = iL ((List.range n).map f) := by unfold iL; rw [List.map_map]; rfl
theorem cut_drop (ds : List PD) (k : Nat) : cutD ds (some (k : Int)) none = ds.drop k := by
  unfold cutD
  have e1 : HT.sIx ds.length 0 (some (k : Int)) = min k ds.length := by unfold HT.sIx; simp; omega
  have e2 : HT.sIx ds.length ds.length none = ds.length := rfl
  rw [e1, e2]
  by_cases h : k ≤ ds.length
  · rw [Nat.min_eq_left h]
    exact List.take_of_length_le (by simp)
  · rw [Nat.min_eq_right (by omega), List.drop_eq_nil_of_le (by omega : ds.length ≤ ds.length), List.drop_eq_nil_of_le (by omega : ds.length ≤ k)]
    simp
theorem cut_take (ds : List PD) (k : Nat) : cutD ds none (some (k : Int)) = ds.take k := by
  unfold cutD
  have e1 : HT.sIx ds.length ds.length (some (k : Int)) = min k ds.length := by unfold HT.sIx; simp; omega
  have e2 : HT.sIx ds.length 0 none = 0 := rfl
  rw [e1, e2, List.drop_zero, Nat.sub_zero]
  by_cases h : k ≤ ds.length
  · rw [Nat.min_eq_left h]
  · rw [Nat.min_eq_right (by omega), List.take_of_length_le (by omega), List.take_of_length_le (by omega)]
/-- spots that may stand -/
def okS (ns : Nt) (t : List Int) : Bool := decide (t.length = ns.length) && (List.range t.length).all (fun i => decide (0 ≤ T t i)) && (List.range (t.length - 1)).all fun i => decide (T t i + Hh ns i ≤ T t (i + 1))
theorem are_ok {ns : Nt} (h : Ok ns) (h1 : ns ≠ []) {t : List Int} (ht : t.length ≤ 1000) : V_are_spots [nt ns, tp t] = some (.dat (.bool (okS ns t))) := by
  have hz := h.len
  have c1 : eComp [3] (eIt (eVar 1)) (gN 3) (pur true) B_are_spots_1 [.val (nt ns), .val (tp t), .un, .un] = some (.frL ((List.range t.length).map fun i => .bool (decide (0 ≤ T t i))), [.val (nt ns), .val (tp t), .un, .un]) := by
    rw [eComp_idx (n := t.length) (ρ1 := [.val (nt ns), .val (tp t), .un, .un]) (ρ2 := [.val (nt ns), .val (tp t), .un, .un]) (items := iL t) (fun i => .int (T t i)) (fun i => .bool (decide (0 ≤ T t i))) (by simp) (iL_len _) ht (by simp) (fun i hi => iL_get hi) fun i hi => ⟨[.val (nt ns), .val (tp t), .un, .val (.int (T t i))], [.val (nt ns), .val (tp t), .un, .val (.int (T t i))], by simp, by simp, by simp⟩]
    simp
  unfold V_are_spots
  by_cases hl : t.length = ns.length
  · have hp : 1 ≤ ns.length := by
      cases ns with
      | nil => exact absurd rfl h1
      | cons _ _ => simp
    have hs := smallI_nat (n := t.length - 1) (by omega)
    have ec : ((t.length : Int) - 1) = ((t.length - 1 : Nat) : Int) := by omega
    have c2 : eComp [2] (eRng1 (e2 gSub (eOp gLen (eCons (eVar 1) eNil)) (eC (.int 1)))) (gN 2) (pur true) B_are_spots_2 [.val (nt ns), .val (tp t), .un, .un] = some (.frL ((List.range (t.length - 1)).map fun i => .bool (decide (T t i + Hh ns i ≤ T t (i + 1)))), [.val (nt ns), .val (tp t), .un, .un]) := by
      rw [eComp_idx (n := t.length - 1) (ρ1 := [.val (nt ns), .val (tp t), .un, .un]) (ρ2 := [.val (nt ns), .val (tp t), .un, .un]) (items := rng 0 (t.length - 1)) (fun i => .int (i : Int)) (fun i => .bool (decide (T t i + Hh ns i ≤ T t (i + 1)))) (by simp [ec, hs]) (rng_len _ _) (by omega) (by simp) (fun i hi => rng_at hi) fun i hi => ?_]
      · simp
      · have g1 := iL_at (t := t) (i := i) (by omega)
        have g2 := iL_at (t := t) (i := i + 1) (by omega)
        rw [Int.natCast_add] at g2
        have g3 := nt_at (W_get (ns := ns) (i := i) (by omega))
        exact ⟨[.val (nt ns), .val (tp t), .val (.int (i : Int)), .un], [.val (nt ns), .val (tp t), .val (.int (i : Int)), .un], by simp, by simp at g2; simp [g1, g2, g3, pair1], by simp⟩
    have q1 := gAll_map t.length fun i => decide (0 ≤ T t i)
    have q2 := gAll_map (t.length - 1) fun i => decide (T t i + Hh ns i ≤ T t (i + 1))
    have eo : okS ns t = ((List.range t.length).all (fun i => decide (0 ≤ T t i)) && (List.range (t.length - 1)).all fun i => decide (T t i + Hh ns i ≤ T t (i + 1))) := by
      unfold okS; rw [decide_eq_true hl, Bool.true_and]
    rw [eo]
    generalize (List.range t.length).all (fun i => decide (0 ≤ T t i)) = b1 at q1 ⊢
    generalize (List.range (t.length - 1)).all (fun i => decide (T t i + Hh ns i ≤ T t (i + 1))) = b2 at q2 ⊢
    have hl' : (t.length : Int) = (ns.length : Int) := by omega
    cases b1 <;> simp [hl', c1, c2, q1, q2]
  · have : okS ns t = false := by unfold okS; simp [hl]
    have hl' : ¬ ((t.length : Int) = (ns.length : Int)) := by omega
    simp [hl', this]
end K07
set_option Elab.async false
set_option linter.all false
set_option maxRecDepth 100000
namespace K07
open PySem PySem.Spec L2 DL
theorem ne_pos {ns : Nt} (h1 : ns ≠ []) : 1 ≤ ns.length := by
  cases ns with
  | nil => exact absurd rfl h1
  | cons _ _ => simp
theorem iL_drop_get {t : List Int} {k i : Nat} (h : k + i < t.length) : ((iL t).drop k)[i]? = some (.int (T t (k + i))) := by
  rw [List.getElem?_drop]; exact iL_get h
theorem any_neg (n : Nat) (f : Nat → Int) : (List.range n).any (fun i => decide (f i < 0)) = !(List.range n).all (fun i => decide (0 ≤ f i)) := by
  rw [Bool.eq_iff_iff]
  simp
theorem lare_ok {ns : Nt} (h : Ok ns) (h1 : ns ≠ []) {t : List Int} (ht : t.length ≤ 1000) : V__law_are_spots [nt ns, tp t] = some (.dat (.bool (okS ns t))) := by
  have hz := h.len
  have hp := ne_pos h1
  have c1 : eComp [5] (eIt (eVar 1)) (gN 5) (pur true) B__law_are_spots_1 [.val (nt ns), .val (tp t), .un, .un, .un, .un] = some (.frL ((List.range t.length).map fun i => .bool (decide (T t i < 0))), [.val (nt ns), .val (tp t), .un, .un, .un, .un]) := by
    rw [eComp_idx (n := t.length) (ρ1 := [.val (nt ns), .val (tp t), .un, .un, .un, .un]) (ρ2 := [.val (nt ns), .val (tp t), .un, .un, .un, .un]) (items := iL t) (fun i => .int (T t i)) (fun i => .bool (decide (T t i < 0))) (by simp) (iL_len _) ht (by simp) (fun i hi => iL_get hi) fun i hi => ⟨[.val (nt ns), .val (tp t), .un, .un, .un, .val (.int (T t i))], [.val (nt ns), .val (tp t), .un, .un, .un, .val (.int (T t i))], by simp, by simp, by simp⟩]
    simp
  have q1 := gAny_map t.length fun i => decide (T t i < 0)
  rw [any_neg] at q1
  unfold V__law_are_spots
  by_cases hl : t.length = ns.length
  · have eo : okS ns t = ((List.range t.length).all (fun i => decide (0 ≤ T t i)) && (List.range (t.length - 1)).all fun i => decide (T t i + Hh ns i ≤ T t (i + 1))) := by
      unfold okS; rw [decide_eq_true hl, Bool.true_and]
    have c2 : eComp [2, 3, 4] (eZip3 (eCons (eVar 1) (eCons (eSl (eVar 1) (oSo (eC (.int 1))) oNo) (eCons (eVar 0) eNil)))) (gT 3 (gsC (gN 2) (gsC (gN 3) (gsC (gN 4) gsN)))) (pur true) B__law_are_spots_2 [.val (nt ns), .val (tp t), .un, .un, .un, .un] = some (.frL ((List.range (t.length - 1)).map fun i => .bool (decide (T t i + Hh ns i ≤ T t (i + 1)))), [.val (nt ns), .val (tp t), .un, .un, .un, .un]) := by
      have ed : cutD (iL t) (some 1) none = (iL t).drop 1 := cut_drop (iL t) 1
      rw [eComp_idx (n := t.length - 1) (ρ1 := [.val (nt ns), .val (tp t), .un, .un, .un, .un]) (ρ2 := [.val (nt ns), .val (tp t), .un, .un, .un, .un]) (items := zip3D (iL t) ((iL t).drop 1) (ns.map pairD)) (fun i => .tuple [.int (T t i), .int (T t (1 + i)), pairD (W ns i, Hh ns i)]) (fun i => .bool (decide (T t i + Hh ns i ≤ T t (i + 1)))) (by simp [ed]) (by rw [zip3_len, List.length_drop, iL_len, List.length_map]; omega) (by omega) (by simp) (fun i hi => zip3_at (iL_get (by omega)) (iL_drop_get (by omega)) (by rw [List.getElem?_map, W_get (by omega)]; rfl)) fun i hi => ?_]
      · simp
      · refine ⟨[.val (nt ns), .val (tp t), .val (.int (T t i)), .val (.int (T t (1 + i))), .val (pairD (W ns i, Hh ns i)), .un], [.val (nt ns), .val (tp t), .val (.int (T t i)), .val (.int (T t (1 + i))), .val (pairD (W ns i, Hh ns i)), .un], by simp, ?_, by simp⟩
        simp [pair1, Nat.add_comm 1 i]
    have q2 := gAll_map (t.length - 1) fun i => decide (T t i + Hh ns i ≤ T t (i + 1))
    rw [eo]
    generalize (List.range t.length).all (fun i => decide (0 ≤ T t i)) = b1 at q1 ⊢
    generalize (List.range (t.length - 1)).all (fun i => decide (T t i + Hh ns i ≤ T t (i + 1))) = b2 at q2 ⊢
    have hl' : (t.length : Int) = (ns.length : Int) := by omega
    cases b1 <;> simp [hl', c1, c2, q1, q2]
  · have : okS ns t = false := by unfold okS; simp [hl]
    have hl' : ¬ ((t.length : Int) = (ns.length : Int)) := by omega
    simp [hl', this]
/-- how far off -/
def ab (x : Int) : Int := if x < 0 then -x else x
theorem ab_nn (x : Int) : 0 ≤ ab x := by unfold ab; split <;> omega
theorem ab_le {x m : Int} : ab x ≤ m ↔ x ≤ m ∧ -x ≤ m := by unfold ab; split <;> omega
def offs (ns : Nt) (t : List Int) : List Int := (List.range ns.length).map fun i => ab (T t i - W ns i)
def offv (ns : Nt) (t : List Int) : Int := maxI (offs ns t)
theorem offs_ne {ns : Nt} (h1 : ns ≠ []) (t : List Int) : offs ns t ≠ [] := by
  have := ne_pos h1
  intro e
  have := congrArg List.length e
  simp [offs] at this
  exact h1 this
theorem loff_ok {ns : Nt} (h : Ok ns) (h1 : ns ≠ []) {t : List Int} (hl : t.length = ns.length) : V__law_off [nt ns, tp t] = some (.dat (.int (offv ns t))) := by
  have hz := h.len
  have c1 : eComp [2, 3] (eZip2 (eCons (eVar 1) (eCons (eVar 0) eNil))) (gT 2 (gsC (gN 2) (gsC (gN 3) gsN))) (pur true) B__law_off_1 [.val (nt ns), .val (tp t), .un, .un] = some (.frL (iL (offs ns t)), [.val (nt ns), .val (tp t), .un, .un]) := by
    rw [eComp_idx (n := ns.length) (ρ1 := [.val (nt ns), .val (tp t), .un, .un]) (ρ2 := [.val (nt ns), .val (tp t), .un, .un]) (items := zip2D (iL t) (ns.map pairD)) (fun i => .tuple [.int (T t i), pairD (W ns i, Hh ns i)]) (fun i => .int (ab (T t i - W ns i))) (by simp) (by rw [zip2_len, iL_len, List.length_map]; omega) (by omega) (by simp) (fun i hi => zip2_at (iL_get (by omega)) (by rw [List.getElem?_map, W_get (by omega)]; rfl)) fun i hi => ?_]
    · rw [iL_map]; simp [offs]
    · refine ⟨[.val (nt ns), .val (tp t), .val (.int (T t i)), .val (pairD (W ns i, Hh ns i))], [.val (nt ns), .val (tp t), .val (.int (T t i)), .val (pairD (W ns i, Hh ns i))], by simp, ?_, by simp⟩
      simp [pair0, ab]
  have hm := gMax_iL (offs_ne h1 t)
  unfold V__law_off
  simp [c1, hm, offv]
theorem raw_ok {ns : Nt} (h : Ok ns) (h1 : ns ≠ []) {t : List Int} (hl : t.length = ns.length) : V_raw_off [nt ns, tp t] = some (.dat (.int (offv ns t))) := by
  have hz := h.len
  have c1 : eComp [2, 3] (eZip2 (eCons (eVar 0) (eCons (eVar 1) eNil))) (gT 2 (gsC (gN 2) (gsC (gN 3) gsN))) (pur true) B_raw_off_1 [.val (nt ns), .val (tp t), .un, .un] = some (.frL (iL (offs ns t)), [.val (nt ns), .val (tp t), .un, .un]) := by
    rw [eComp_idx (n := ns.length) (ρ1 := [.val (nt ns), .val (tp t), .un, .un]) (ρ2 := [.val (nt ns), .val (tp t), .un, .un]) (items := zip2D (ns.map pairD) (iL t)) (fun i => .tuple [pairD (W ns i, Hh ns i), .int (T t i)]) (fun i => .int (ab (T t i - W ns i))) (by simp) (by rw [zip2_len, iL_len, List.length_map]; omega) (by omega) (by simp) (fun i hi => zip2_at (by rw [List.getElem?_map, W_get (by omega)]; rfl) (iL_get (by omega))) fun i hi => ?_]
    · rw [iL_map]; simp [offs]
    · refine ⟨[.val (nt ns), .val (tp t), .val (pairD (W ns i, Hh ns i)), .val (.int (T t i))], [.val (nt ns), .val (tp t), .val (pairD (W ns i, Hh ns i)), .val (.int (T t i))], by simp, ?_, by simp⟩
      simp [pair0, ab]
  have hm := gMax_iL (l := 0 :: offs ns t) (by simp)
  have e0 : maxI (0 :: offs ns t) = offv ns t := by
    refine maxI_eq (List.mem_cons_of_mem _ (maxI_mem (offs_ne h1 t))) fun y hy => ?_
    rcases List.mem_cons.mp hy with rfl | hy
    · have hm := maxI_mem (offs_ne h1 t)
      obtain ⟨i, _, e⟩ := List.mem_map.mp (show maxI (offs ns t) ∈ (List.range ns.length).map (fun i => ab (T t i - W ns i)) from hm)
      show 0 ≤ maxI (offs ns t)
      rw [← e]; exact ab_nn _
    · exact maxI_ge hy
  rw [e0] at hm
  have hlen : (iL (offs ns t)).length + 1 ≤ 16777216 := by rw [iL_len]; unfold offs; rw [List.length_map, List.length_range]; omega
  have e1 : PyData.int 0 :: iL (offs ns t) = iL (0 :: offs ns t) := rfl
  unfold V_raw_off
  simp [c1, Nat.add_comm 1, hlen, e1, hm]
theorem off_ok {ns : Nt} (h : Ok ns) (h1 : ns ≠ []) {t : List Int} (hl : t.length = ns.length) (hk : okS ns t = true) : V_off [nt ns, tp t] = some (.dat (.int (offv ns t))) := by
  have hz := h.len
  have c := are_ok h h1 (t := t) (by omega)
  rw [hk] at c
  unfold V_off
  simp [check_ok h, c, raw_ok h h1 hl]
theorem isspots_ok {ns : Nt} (h : Ok ns) (h1 : ns ≠ []) {t : List Int} (ht : t.length ≤ 1000) : V_is_spots [nt ns, tp t] = some (.dat (.bool (okS ns t))) := by
  unfold V_is_spots
  simp [check_ok h, are_ok h h1 ht]
theorem leastoff_ok {ns : Nt} (h : Ok ns) : V_least_off [nt ns] = some (.dat (.int (least ns))) := by
  unfold V_least_off
  simp [check_ok h, least_ok h]
/-! ### the spots that are drawn -/
/-- where the next may begin -/
def drawn (ns : Nt) : Nat → List Int × Int
  | 0 => ([], 0)
  | k + 1 => let s := max (drawn ns k).2 (W ns k - least ns); ((drawn ns k).1 ++ [s], s + Hh ns k)
theorem drawn_len (ns : Nt) : ∀ k, (drawn ns k).1.length = k
  | 0 => rfl
  | k + 1 => by
    show ((drawn ns k).1 ++ [_]).length = k + 1
    rw [List.length_append, drawn_len ns k]; rfl
def own (ns : Nt) : List Int := (drawn ns ns.length).1
theorem maxIf (a b : Int) : (if b > a then b else a) = max a b := by
  rw [Int.max_def]
  split <;> split <;> omega
theorem own_loop {ns : Nt} (h : Ok ns) : ∃ ρ', forD (gT 2 (gsC (gN 4) (gsC (gN 5) gsN))) B_spots_1 (ns.map pairD) [.val (nt ns), .val (.int (least ns)), .own [], .val (.int 0), .un, .un] = some (.nx, ρ') ∧ ∃ a s4 s5, ρ' = [.val (nt ns), .val (.int (least ns)), .own (iL (own ns)), a, s4, s5] := by
  have hz := h.len
  obtain ⟨ρ', e1, s4, s5, _, _, e2⟩ := forD_all (g := gT 2 (gsC (gN 4) (gsC (gN 5) gsN))) (fb := B_spots_1) (items := ns.map pairD) (ρ := [.val (nt ns), .val (.int (least ns)), .own [], .val (.int 0), .un, .un])
    (fun i ρ => ∃ s4 s5, Fr s4 ∧ Fr s5 ∧ ρ = [.val (nt ns), .val (.int (least ns)), .own (iL (drawn ns i).1), .val (.int (drawn ns i).2), s4, s5]) ⟨.un, .un, Fr.un, Fr.un, rfl⟩ fun i d ρ e ⟨s4, s5, h4, h5, eρ⟩ => by
      obtain ⟨p, hp, rfl⟩ := map_get e
      subst eρ
      have hi : i < ns.length := (List.getElem?_eq_some_iff.mp hp).1
      refine ⟨[.val (nt ns), .val (.int (least ns)), .own (iL (drawn ns i).1), .val (.int (drawn ns i).2), .val (.int p.1), .val (.int p.2)], _, ?_, ?_, .val (.int p.1), .val (.int p.2), Fr.val _, Fr.val _, rfl⟩
      · rw [gT2]; simp [h4, h5]
      · have t1 : (iL (drawn ns i).1).length < 16777216 := by rw [iL_len, drawn_len]; omega
        have t2 := iL_last (drawn ns i).1 (max (drawn ns i).2 (W ns i - least ns))
        have e3 : iL ((drawn ns i).1 ++ [max (drawn ns i).2 (W ns i - least ns)]) = iL (drawn ns i).1 ++ [.int (max (drawn ns i).2 (W ns i - least ns))] := iL_app _ _
        rw [e3] at t2
        rw [show drawn ns (i + 1) = ((drawn ns i).1 ++ [max (drawn ns i).2 (W ns i - least ns)], max (drawn ns i).2 (W ns i - least ns) + Hh ns i) from rfl]
        rw [W_of hp] at t2 e3 ⊢
        rw [H_of hp]
        simp only [e3]
        have mi := maxIf (drawn ns i).2 (p.1 - least ns)
        simp only [gt_iff_lt] at mi
        simp [t1, mi, t2]
  rw [List.length_map] at e2
  exact ⟨ρ', e1, _, s4, s5, e2⟩
theorem spots_ok {ns : Nt} (h : Ok ns) : V_spots [nt ns] = some (.dat (tp (own ns))) := by
  obtain ⟨ρ', e1, a, s4, s5, rfl⟩ := own_loop h
  unfold V_spots
  simp [check_ok h, least_ok h, e1, tp]
end K07
set_option Elab.async false
set_option linter.all false
set_option maxRecDepth 100000
namespace K07
open PySem PySem.Spec L2 DL
/-! ### mathematics of the least off -/
theorem A_step {ns : Nt} {i : Nat} (h : i < ns.length) : A ns (i + 1) = A ns i + Hh ns i := by
  rw [A_succ (W_get h)]
theorem H_pos {ns : Nt} (h : Ok ns) {i : Nat} (hi : i < ns.length) : 1 ≤ Hh ns i ∧ Hh ns i ≤ 50 ∧ 0 ≤ W ns i ∧ W ns i ≤ 1000 := by
  have := h.all _ (List.mem_of_getElem? (W_get hi))
  exact ⟨this.2.2.1, this.2.2.2, this.1, this.2.1⟩
theorem least_nn (ns : Nt) : 0 ≤ least ns := maxI_ge (cands_mem.mpr (.inl rfl))
theorem top_le {ns : Nt} {l : Nat} (h : l < ns.length) : top ns l ≤ least ns := maxI_ge (cands_mem.mpr (.inr (.inl ⟨l, h, rfl⟩)))
theorem half_le {ns : Nt} {f l : Nat} (h : l < ns.length) (hf : f < l) : half ns f l ≤ least ns := maxI_ge (cands_mem.mpr (.inr (.inr ⟨l, f, h, hf, rfl⟩)))
theorem least_is (ns : Nt) : least ns = 0 ∨ (∃ l, l < ns.length ∧ least ns = top ns l) ∨ ∃ l f, l < ns.length ∧ f < l ∧ least ns = half ns f l := cands_mem.mp (maxI_mem (by simp [cands]))
theorem half_iff {ns : Nt} {f l : Nat} {m : Int} : half ns f l ≤ m ↔ ex ns f l ≤ 2 * m := by unfold half; omega
theorem half_eq {ns : Nt} {f l : Nat} {m : Int} : half ns f l = m ↔ ex ns f l = 2 * m ∨ ex ns f l = 2 * m - 1 := by unfold half; omega
structure Good (ns : Nt) (t : List Int) : Prop where
  len : t.length = ns.length
  nn : ∀ i, i < ns.length → 0 ≤ T t i
  sp : ∀ i, i + 1 < ns.length → T t i + Hh ns i ≤ T t (i + 1)
theorem okS_iff {ns : Nt} {t : List Int} : okS ns t = true ↔ Good ns t := by
  unfold okS
  simp only [Bool.and_eq_true, decide_eq_true_eq, List.all_eq_true, List.mem_range]
  constructor
  · rintro ⟨⟨h1, h2⟩, h3⟩
    exact ⟨h1, fun i hi => h2 i (by omega), fun i hi => h3 i (by omega)⟩
  · rintro ⟨h1, h2, h3⟩
    exact ⟨⟨h1, fun i hi => h2 i (by omega)⟩, fun i hi => h3 i (by omega)⟩
theorem Good.ge {ns : Nt} {t : List Int} (g : Good ns t) {f : Nat} : ∀ {l : Nat}, f ≤ l → l < ns.length → T t f + A ns l - A ns f ≤ T t l
  | 0, h, hl => by
    have : f = 0 := by omega
    subst this; omega
  | l + 1, h, hl => by
    by_cases e : f = l + 1
    · subst e; omega
    · have h1 := Good.ge g (f := f) (l := l) (by omega) (by omega)
      have h2 := g.sp l hl
      have h3 := A_step (ns := ns) (i := l) (by omega)
      omega
theorem Good.top {ns : Nt} {t : List Int} (g : Good ns t) {l : Nat} (hl : l < ns.length) : A ns l ≤ T t l := by
  have h1 := g.ge (f := 0) (l := l) (by omega) hl
  have h2 := g.nn 0 (by omega)
  have h3 : A ns 0 = 0 := rfl
  omega
theorem offv_ge {ns : Nt} {t : List Int} {i : Nat} (h : i < ns.length) : ab (T t i - W ns i) ≤ offv ns t := maxI_ge (by
  unfold offs
  exact List.mem_map.mpr ⟨i, List.mem_range.mpr h, rfl⟩)
theorem offv_le {ns : Nt} {t : List Int} (h1 : ns ≠ []) {m : Int} (h : ∀ i, i < ns.length → ab (T t i - W ns i) ≤ m) : offv ns t ≤ m := by
  have hm := maxI_mem (offs_ne h1 t)
  obtain ⟨i, hi, e⟩ := List.mem_map.mp (show maxI (offs ns t) ∈ (List.range ns.length).map (fun i => ab (T t i - W ns i)) from hm)
  show maxI (offs ns t) ≤ m
  rw [← e]
  exact h i (List.mem_range.mp hi)
theorem low {ns : Nt} {t : List Int} (h1 : ns ≠ []) (g : Good ns t) : least ns ≤ offv ns t := by
  have b : ∀ i, i < ns.length → T t i - W ns i ≤ offv ns t ∧ -(T t i - W ns i) ≤ offv ns t := fun i hi => ab_le.mp (offv_ge hi)
  have hp := ne_pos h1
  rcases least_is ns with e | ⟨l, hl, e⟩ | ⟨l, f, hl, hf, e⟩
  · have := offv_ge (t := t) (ns := ns) (i := 0) (by omega)
    have := ab_nn (T t 0 - W ns 0)
    omega
  · have h2 := g.top hl
    have h3 := b l hl
    unfold top at e
    omega
  · rw [e, half_iff]
    have h2 := g.ge (f := f) (l := l) (by omega) hl
    have h3 := b l hl
    have h4 := b f (by omega)
    unfold ex
    omega
/-! the spots that are drawn -/
theorem drawn_T (ns : Nt) : ∀ (m k : Nat), k < m → T (drawn ns m).1 k = max (drawn ns k).2 (W ns k - least ns)
  | m + 1, k, h => by
    have hl := drawn_len ns m
    show T ((drawn ns m).1 ++ [max (drawn ns m).2 (W ns m - least ns)]) k = _
    unfold T
    by_cases e : k = m
    · subst e
      rw [List.getElem?_append_right (by omega), hl]
      simp
    · rw [List.getElem?_append_left (by omega)]
      exact drawn_T ns m k (by omega)
theorem own_T {ns : Nt} {k : Nat} (h : k < ns.length) : T (own ns) k = max (drawn ns k).2 (W ns k - least ns) := drawn_T ns _ k h
theorem own_len (ns : Nt) : (own ns).length = ns.length := drawn_len ns _
theorem drawn_E (ns : Nt) (k : Nat) : (drawn ns (k + 1)).2 = max (drawn ns k).2 (W ns k - least ns) + Hh ns k := rfl
theorem drawn_nn {ns : Nt} (h : Ok ns) : ∀ k, k ≤ ns.length → 0 ≤ (drawn ns k).2
  | 0, _ => Int.le_refl 0
  | k + 1, hk => by
    have h1 := drawn_nn h k (by omega)
    have h2 := H_pos h (i := k) (by omega)
    rw [drawn_E]
    omega
theorem own_good {ns : Nt} (h : Ok ns) : Good ns (own ns) := by
  refine ⟨own_len ns, fun i hi => ?_, fun i hi => ?_⟩
  · rw [own_T hi]
    have := drawn_nn h i (by omega)
    omega
  · rw [own_T (by omega), own_T hi, drawn_E]
    omega
theorem drawn_form {ns : Nt} : ∀ k, k ≤ ns.length → (drawn ns k).2 = A ns k ∨ ∃ j, j < k ∧ (drawn ns k).2 = W ns j - least ns + A ns k - A ns j
  | 0, _ => .inl rfl
  | k + 1, hk => by
    have h1 := A_step (ns := ns) (i := k) (by omega)
    rw [drawn_E]
    by_cases e : (drawn ns k).2 ≤ W ns k - least ns
    · exact .inr ⟨k, by omega, by omega⟩
    · rcases drawn_form (ns := ns) k (by omega) with h2 | ⟨j, hj, h2⟩
      · exact .inl (by omega)
      · exact .inr ⟨j, by omega, by omega⟩
theorem own_le {ns : Nt} {i : Nat} (hi : i < ns.length) : ab (T (own ns) i - W ns i) ≤ least ns := by
  rw [own_T hi, ab_le]
  have h0 := least_nn ns
  refine ⟨?_, by omega⟩
  rcases drawn_form (ns := ns) i (by omega) with h2 | ⟨j, hj, h2⟩
  · have h3 := top_le hi
    unfold top at h3
    omega
  · have h3 := half_iff.mp (half_le hi hj)
    unfold ex at h3
    omega
theorem own_off {ns : Nt} (h : Ok ns) (h1 : ns ≠ []) : offv ns (own ns) = least ns :=
  Int.le_antisymm (offv_le h1 fun i hi => own_le hi) (low h1 (own_good h))
/-! ### pairs that press -/
inductive Fst where
  | no
  | at (f : Nat)
def fD : Fst → PD
  | .no => .none
  | .at f => .int (f : Int)
def press (ns : Nt) (m : Int) (l : Nat) : Fst → Bool
  | .no => decide (top ns l = m)
  | .at f => decide (ex ns f l = 2 * m ∨ ex ns f l = 2 * m - 1)
theorem in2 (x a b : Int) : inD false [.int x, .tuple [.int a, .int b]] = some (.dat (.bool (decide (x = a ∨ x = b)))) := by
  have : inD false [.int x, .tuple [.int a, .int b]] = some (.dat (.bool ((a == x) || ((b == x) || false)))) := rfl
  rw [this]
  congr 3
  rw [Bool.eq_iff_iff]
  simp
  omega
theorem press_no {ns : Nt} (h : Ok ns) {l : Nat} (hl : l < ns.length) (m : Int) : V_is_press [nt ns, .int m, .none, .int (l : Int)] = some (.dat (.bool (decide (top ns l = m)))) := by
  unfold V_is_press
  simp [top_ok h hl]
theorem press_at {ns : Nt} (h : Ok ns) {f l : Nat} (hl : l < ns.length) (hf : f ≤ l) {m : Int} (hm : -1000000 ≤ m ∧ m ≤ 1000000) : V_is_press [nt ns, .int m, .int (f : Int), .int (l : Int)] = some (.dat (.bool (decide (ex ns f l = 2 * m ∨ ex ns f l = 2 * m - 1)))) := by
  have e := in2 (ex ns f l) (2 * m) (2 * m - 1)
  unfold V_is_press
  have hf' : (f : Int) ≤ (l : Int) := by omega
  simp [ex_ok h (show f < ns.length by omega) hl, e, hf']
theorem press_ok {ns : Nt} (h : Ok ns) {l : Nat} (hl : l < ns.length) {m : Int} (hm : -1000000 ≤ m ∧ m ≤ 1000000) (f : Fst) (hf : ∀ k, f = .at k → k ≤ l) : V_is_press [nt ns, .int m, fD f, .int (l : Int)] = some (.dat (.bool (press ns m l f))) := by
  cases f with
  | no => exact press_no h hl m
  | «at» k => exact press_at h hl (hf k rfl) hm
end K07
set_option Elab.async false
set_option linter.all false
set_option maxRecDepth 100000
namespace K07
open PySem PySem.Spec L2 DL
def FOk (l : Nat) (f : Fst) : Prop := ∀ k, f = .at k → k < l
def firsts (l : Nat) : List PD := .none :: rng 0 l
theorem FOk.no (l : Nat) : FOk l .no := fun k z => by cases z
theorem FOk.at {l k : Nat} (h : k < l) : FOk l (.at k) := fun j z => by cases z; exact h
theorem firsts_get {l i : Nat} {d : PD} (h : (firsts l)[i]? = some d) : ∃ f, d = fD f ∧ FOk l f ∧ (f = .no ∧ i = 0 ∨ ∃ k, f = .at k ∧ i = k + 1) := by
  cases i with
  | zero =>
    have h' : some PyData.none = some d := h
    cases h'
    exact ⟨.no, rfl, FOk.no l, .inl ⟨rfl, rfl⟩⟩
  | succ i =>
    have h' : (rng 0 l)[i]? = some d := h
    obtain ⟨hi, rfl⟩ := rng_get h'
    exact ⟨.at i, by simp [fD], FOk.at hi, .inr ⟨i, rfl, rfl⟩⟩
theorem firsts_len (l : Nat) : (firsts l).length = l + 1 := by unfold firsts; rw [List.length_cons, rng_len]
theorem inner_press {ns : Nt} (h : Ok ns) {l : Nat} (hl : l < ns.length) {m : Int} (hm : -1000000 ≤ m ∧ m ≤ 1000000) (s : SV) (hs : Fr s) :
    (∃ ρ', forD (gN 3) B_pressing_1 (firsts l) [.val (nt ns), .val (.int m), .val (.int (l : Int)), s] = some (.nx, ρ') ∧ (∃ s', Fr s' ∧ ρ' = [.val (nt ns), .val (.int m), .val (.int (l : Int)), s']) ∧ ∀ f, FOk l f → press ns m l f = false) ∨
    ∃ hh ρ', forD (gN 3) B_pressing_1 (firsts l) [.val (nt ns), .val (.int m), .val (.int (l : Int)), s] = some (.rt hh, ρ') ∧ ∃ f, FOk l f ∧ press ns m l f = true ∧ hh = .dat (.tuple [fD f, .int (l : Int)]) := by
  have := forD_run (g := gN 3) (fb := B_pressing_1) (items := firsts l) (ρ := [.val (nt ns), .val (.int m), .val (.int (l : Int)), s])
    (fun i ρ => (∃ s', Fr s' ∧ ρ = [.val (nt ns), .val (.int m), .val (.int (l : Int)), s']) ∧ ∀ f j, j < i → (f = .no ∧ j = 0 ∨ ∃ k, f = .at k ∧ j = k + 1) → press ns m l f = false)
    (fun hh _ => ∃ f, FOk l f ∧ press ns m l f = true ∧ hh = .dat (.tuple [fD f, .int (l : Int)])) ⟨⟨s, hs, rfl⟩, fun _ _ h => absurd h (by omega)⟩ fun i d ρ e ⟨⟨s', hs', eρ⟩, hn⟩ => by
      obtain ⟨f, rfl, hf, hi⟩ := firsts_get e
      subst eρ
      have hp := press_ok h hl hm f fun k e => by have := hf k e; omega
      refine ⟨[.val (nt ns), .val (.int m), .val (.int (l : Int)), .val (fD f)], [.val (nt ns), .val (.int m), .val (.int (l : Int)), .val (fD f)], by simp [hs'], ?_⟩
      cases hb : press ns m l f with
      | true =>
        rw [hb] at hp
        exact .inr ⟨_, by simp [hp], f, hf, hb, rfl⟩
      | false =>
        rw [hb] at hp
        refine .inl ⟨by simp [hp], ⟨_, Fr.val _, rfl⟩, fun g j hj hg => ?_⟩
        by_cases hji : j < i
        · exact hn g j hji hg
        · have ej : j = i := by omega
          subst ej
          rcases hg with ⟨rfl, e0⟩ | ⟨k, rfl, ek⟩ <;> rcases hi with ⟨rfl, e1⟩ | ⟨k', rfl, e1⟩
          · exact hb
          · omega
          · omega
          · have : k = k' := by omega
            subst this
            exact hb
  rcases this with ⟨ρ', e1, sh, hn⟩ | h
  · refine .inl ⟨ρ', e1, sh, fun f hf => ?_⟩
    rw [firsts_len] at hn
    cases f with
    | no => exact hn .no 0 (by omega) (.inl ⟨rfl, rfl⟩)
    | «at» k => exact hn (.at k) (k + 1) (by have := hf k rfl; omega) (.inr ⟨k, rfl, rfl⟩)
  · exact .inr h
theorem least_b {ns : Nt} (h : Ok ns) : least ns ≤ 1000000 := by
  have ha : ∀ i, i ≤ ns.length → A ns i ≤ 50 * i := fun i => by
    induction i with
    | zero => intro _; exact Int.le_refl 0
    | succ i ih =>
      intro hi
      have h1 := ih (by omega)
      have h2 := A_step (ns := ns) (i := i) (by omega)
      have h3 := H_pos h (i := i) (by omega)
      omega
  have hn : ∀ i, i ≤ ns.length → 0 ≤ A ns i := fun i => by
    induction i with
    | zero => intro _; exact Int.le_refl 0
    | succ i ih =>
      intro hi
      have h1 := ih (by omega)
      have h2 := A_step (ns := ns) (i := i) (by omega)
      have h3 := H_pos h (i := i) (by omega)
      omega
  have hz := h.len
  rcases least_is ns with e | ⟨l, hl, e⟩ | ⟨l, f, hl, hf, e⟩
  · omega
  · have h1 := ha l (by omega)
    have h2 := H_pos h hl
    unfold top at e
    omega
  · rw [e, half_iff]
    have h1 := ha l (by omega)
    have h2 := H_pos h hl
    have h3 := H_pos h (i := f) (by omega)
    have h4 := hn f (by omega)
    unfold ex
    omega
theorem least_press {ns : Nt} (h0 : least ns ≠ 0) : ∃ l f, l < ns.length ∧ FOk l f ∧ press ns (least ns) l f = true := by
  rcases least_is ns with e | ⟨l, hl, e⟩ | ⟨l, f, hl, hf, e⟩
  · exact absurd e h0
  · exact ⟨l, .no, hl, FOk.no l, decide_eq_true e.symm⟩
  · exact ⟨l, .at f, hl, FOk.at hf, decide_eq_true (half_eq.mp e.symm)⟩
theorem pressing_0 {ns : Nt} (h : Ok ns) (h0 : least ns = 0) : V_pressing [nt ns] = some (.dat .none) := by
  unfold V_pressing
  simp [check_ok h, least_ok h, h0]
theorem pressing_1 {ns : Nt} (h : Ok ns) (h0 : least ns ≠ 0) : ∃ l f, l < ns.length ∧ FOk l f ∧ press ns (least ns) l f = true ∧ V_pressing [nt ns] = some (.dat (.tuple [fD f, .int (l : Int)])) := by
  have hz := h.len
  have hm : -1000000 ≤ least ns ∧ least ns ≤ 1000000 := ⟨by have := least_nn ns; omega, least_b h⟩
  have loop := forD_run (g := gN 2) (fb := B_pressing_2) (items := rng 0 ns.length) (ρ := [.val (nt ns), .val (.int (least ns)), .un, .un])
    (fun i ρ => (∃ s2 s3, Fr s2 ∧ Fr s3 ∧ ρ = [.val (nt ns), .val (.int (least ns)), s2, s3]) ∧ ∀ l f, l < i → FOk l f → press ns (least ns) l f = false)
    (fun hh _ => ∃ l f, l < ns.length ∧ FOk l f ∧ press ns (least ns) l f = true ∧ hh = .dat (.tuple [fD f, .int (l : Int)])) ⟨⟨.un, .un, Fr.un, Fr.un, rfl⟩, fun _ _ h => absurd h (by omega)⟩ fun i d ρ e ⟨⟨s2, s3, h2, h3, eρ⟩, hn⟩ => by
      obtain ⟨hi, rfl⟩ := rng_get e
      subst eρ
      have hr := rgOk_nat (n := i) (by omega)
      have hlen : (rng 0 i).length ≤ 16777215 := by rw [rng_len]; omega
      have ei : PyData.none :: rng 0 i = firsts i := rfl
      rcases inner_press h hi hm s3 h3 with ⟨ρ', e1, ⟨s', fs', rfl⟩, e2⟩ | ⟨hh, ρ', e1, f, hf, hp, e2⟩
      · refine ⟨[.val (nt ns), .val (.int (least ns)), .val (.int (i : Int)), s3], [.val (nt ns), .val (.int (least ns)), .val (.int (i : Int)), s'], by simp [h2], .inl ⟨?_, ⟨_, s', Fr.val _, fs', rfl⟩, fun l f hl hf => ?_⟩⟩
        · simp [hr, hlen, Nat.add_comm, ei, e1]
        · by_cases hli : l < i
          · exact hn l f hli hf
          · have : l = i := by omega
            subst this
            exact e2 f hf
      · refine ⟨[.val (nt ns), .val (.int (least ns)), .val (.int (i : Int)), s3], ρ', by simp [h2], .inr ⟨hh, ?_, i, f, hi, hf, hp, e2⟩⟩
        simp [hr, hlen, Nat.add_comm, ei, e1]
  have hs := smallI_nat (n := ns.length) (by omega)
  rcases loop with ⟨ρ', e1, _, hn⟩ | ⟨hh, ρ', e1, l, f, hl, hf, hp, e2⟩
  · obtain ⟨l, f, hl, hf, hp⟩ := least_press h0
    rw [rng_len] at hn
    rw [hn l f hl hf] at hp
    cases hp
  · refine ⟨l, f, hl, hf, hp, ?_⟩
    subst e2
    unfold V_pressing
    simp [check_ok h, least_ok h, h0, hs, e1]
end K07
set_option Elab.async false
set_option linter.all false
set_option maxRecDepth 100000
namespace K07
open PySem PySem.Spec L2 DL
theorem lpresses_ok {ns : Nt} (h : Ok ns) {l : Nat} (hl : l < ns.length) (m : Int) (f : Fst) (hf : FOk l f) : V__law_presses [nt ns, .int m, .tuple [fD f, .int (l : Int)]] = some (.dat (.bool (press ns m l f))) := by
  have hz := h.len
  have g1 := heads_at (ns := ns) (n := ns.length + 1) (i := l) (by omega)
  have g2 := nt_at (W_get hl)
  have hl1 : (l : Int) < (ns.length : Int) := by omega
  have hl0 : ¬ ((l : Int) < 0) := by omega
  unfold V__law_presses
  cases f with
  | no =>
    simp [fD, lahead_ok h, g1, g2, pair0, press, top, hl1, hl0]
    exact decide_eq_decide.mpr Iff.rfl
  | «at» k =>
    have hk := hf k rfl
    have hk1 : (k : Int) < (l : Int) := by omega
    have e := in2 (ex ns k l) (2 * m) (2 * m - 1)
    have o := lover_ok (ns := ns) (f := k) (l := l) (by omega) hl (m := ns.length + 1) (by omega)
    simp [fD, lahead_ok h, hk1, hl1, o, e, press]
theorem ispressing_ok {ns : Nt} (h : Ok ns) (h0 : least ns ≠ 0) {l : Nat} (hl : l < ns.length) (f : Fst) (hf : FOk l f) : V_is_pressing [nt ns, .tuple [fD f, .int (l : Int)]] = some (.dat (.bool (press ns (least ns) l f))) := by
  have hz := h.len
  have hm : -1000000 ≤ least ns ∧ least ns ≤ 1000000 := ⟨by have := least_nn ns; omega, least_b h⟩
  have hp := press_ok h hl hm f fun k e => by have := hf k e; omega
  have g0 : atI [fD f, PyData.int (l : Int)] 0 = some (fD f) := rfl
  have g1 : atI [fD f, PyData.int (l : Int)] 1 = some (.int (l : Int)) := rfl
  have t2 : V_is_tuple_of [.tuple [fD f, .int (l : Int)], .int 2] = some (.dat (.bool true)) := is_tuple_of_t [fD f, .int (l : Int)] 2
  have b1 : (l : Int) ≤ (ns.length : Int) - 1 := by omega
  have b2 : (0 : Int) ≤ (l : Int) := by omega
  unfold V_is_pressing
  simp [check_ok h, least_ok h, h0, t2, g0, g1, b1, b2]
  cases f with
  | no =>
    simp only [fD] at hp g0 g1 ⊢
    simp [hp, g0, g1]
  | «at» k =>
    have hk := hf k rfl
    have b3 : (k : Int) ≤ (l : Int) := by omega
    simp only [fD] at hp g0 g1 ⊢
    simp [hp, b3, g0, g1]
end K07
set_option Elab.async false
set_option linter.all false
set_option maxRecDepth 100000
namespace K07
open PySem PySem.Spec L2 DL
/-! ### mathematics of the least sum -/
def sw (ns : Nt) (i : Nat) : Int := W ns i - A ns i
def cl (ns : Nt) (i : Nat) : Int := max 0 (sw ns i)
def clips (ns : Nt) : List Int := (List.range ns.length).map (cl ns)
def plc (ns : Nt) : List Int := setI (clips ns)
def plcL (ns : Nt) : List Int := setI (0 :: clips ns)
/-- least of the first k + 1 -/
def pm (f : Nat → Int) : Nat → Int
  | 0 => f 0
  | k + 1 => min (f (k + 1)) (pm f k)
theorem pm_le (f : Nat → Int) : ∀ {j k : Nat}, j ≤ k → pm f k ≤ pm f j
  | j, 0, h => by
    have : j = 0 := by omega
    subst this; exact Int.le_refl _
  | j, k + 1, h => by
    by_cases e : j = k + 1
    · subst e; exact Int.le_refl _
    · have := pm_le f (j := j) (k := k) (by omega)
      show min _ _ ≤ _
      omega
theorem pm_at (f : Nat → Int) (k : Nat) : pm f k ≤ f k := by
  cases k with
  | zero => exact Int.le_refl _
  | succ k => show min _ _ ≤ _; omega
theorem pm_congr {f g : Nat → Int} : ∀ {k : Nat}, (∀ j, j ≤ k → f j = g j) → pm f k = pm g k
  | 0, h => h 0 (by omega)
  | k + 1, h => by
    show min _ _ = min _ _
    rw [h (k + 1) (by omega), pm_congr fun j hj => h j (by omega)]
theorem pm_mem (f : Nat → Int) : ∀ k, ∃ j, j ≤ k ∧ pm f k = f j
  | 0 => ⟨0, by omega, rfl⟩
  | k + 1 => by
    obtain ⟨j, h1, h2⟩ := pm_mem f k
    by_cases e : f (k + 1) ≤ pm f k
    · exact ⟨k + 1, by omega, by show min _ _ = _; omega⟩
    · exact ⟨j, by omega, by show min _ _ = _; omega⟩
/-- the table over the places q, the program's way -/
def dp (ns : Nt) (q : List Int) : Nat → Nat → Int
  | 0, _ => 0
  | i + 1, k => pm (fun j => dp ns q i j + ab (T q j - sw ns i)) k
/-- the law's way -/
def lp (ns : Nt) (q : List Int) : Nat → Nat → Int
  | 0, _ => 0
  | i + 1, k => pm (lp ns q i) k + ab (T q k - sw ns i)
theorem pm_zero : ∀ k, pm (fun _ => 0) k = 0
  | 0 => rfl
  | k + 1 => by show min _ _ = _; rw [pm_zero k]; rfl
theorem lp_dp (ns : Nt) (q : List Int) : ∀ i k, pm (lp ns q i) k = dp ns q i k
  | 0, k => pm_zero k
  | i + 1, k => pm_congr fun j _ => by
    show pm (lp ns q i) j + _ = _
    rw [lp_dp ns q i j]
theorem dp_le (ns : Nt) (q : List Int) {i j k : Nat} (h : j ≤ k) : dp ns q i k ≤ dp ns q i j := by
  cases i with
  | zero => exact Int.le_refl _
  | succ i => exact pm_le _ h
theorem T_cons (a : Int) (q : List Int) (k : Nat) : T (a :: q) (k + 1) = T q k := rfl
/-- a place 0 ahead of all that can matter does not help -/
theorem dp_zero {ns : Nt} {q : List Int} (h0 : 0 < T q 0) (h : ∀ i, i < ns.length → T q 0 ≤ sw ns i) : ∀ i, i ≤ ns.length → ∀ k, dp ns (0 :: q) i (k + 1) = dp ns q i k
  | 0, _, k => rfl
  | i + 1, hi, k => by
    have ih := dp_zero h0 h i (by omega)
    have hs := h i (by omega)
    have key : ∀ k, pm (fun j => dp ns (0 :: q) i j + ab (T (0 :: q) j - sw ns i)) (k + 1) = pm (fun j => dp ns q i j + ab (T q j - sw ns i)) k := fun k => by
      induction k with
      | zero =>
        show min _ _ = _
        have e1 : dp ns (0 :: q) i (0 + 1) = dp ns q i 0 := ih 0
        have e2 := dp_le ns (0 :: q) (i := i) (j := 0) (k := 1) (by omega)
        have e3 : dp ns (0 :: q) i 1 = dp ns q i 0 := e1
        show min (dp ns (0 :: q) i (0 + 1) + ab (T (0 :: q) (0 + 1) - sw ns i)) (dp ns (0 :: q) i 0 + ab (T (0 :: q) 0 - sw ns i)) = dp ns q i 0 + ab (T q 0 - sw ns i)
        rw [e1, T_cons]
        have e4 : T (0 :: q) 0 = 0 := rfl
        rw [e4]
        have a1 : ab (T q 0 - sw ns i) = sw ns i - T q 0 := by unfold ab; split <;> omega
        have a2 : ab (0 - sw ns i) = sw ns i := by unfold ab; split <;> omega
        rw [a1, a2]
        omega
      | succ k ihk =>
        show min _ _ = min _ _
        rw [ihk]
        show min (dp ns (0 :: q) i (k + 1 + 1) + ab (T (0 :: q) (k + 1 + 1) - sw ns i)) _ = _
        rw [ih (k + 1), T_cons]
    exact key k
/-- the least of the last row -/
theorem minI_pm {f : Nat → Int} : ∀ n, minI ((List.range (n + 1)).map f) = pm f n := fun n => by
  refine minI_eq ?_ fun y hy => ?_
  · obtain ⟨j, h1, h2⟩ := pm_mem f n
    rw [h2]
    exact List.mem_map.mpr ⟨j, List.mem_range.mpr (by omega), rfl⟩
  · obtain ⟨j, h1, rfl⟩ := List.mem_map.mp hy
    have h1 := List.mem_range.mp h1
    have h2 := pm_le f (j := j) (k := n) (by omega)
    have h3 := pm_at f j
    omega
/-! places -/
theorem up_T {q : List Int} (h : q.Pairwise (· < ·)) {i j : Nat} (hij : i < j) (hj : j < q.length) : T q i < T q j := by
  have := List.pairwise_iff_getElem.mp h i j (by omega) hj hij
  have e1 := T_get (t := q) (i := i) (by omega)
  have e2 := T_get (t := q) (i := j) hj
  rw [List.getElem?_eq_getElem (by omega)] at e1
  rw [List.getElem?_eq_getElem hj] at e2
  rw [← Option.some.inj e1, ← Option.some.inj e2]
  exact this
theorem T_mem {q : List Int} {i : Nat} (h : i < q.length) : T q i ∈ q := List.mem_of_getElem? (T_get h)
theorem plc_up (ns : Nt) : (plc ns).Pairwise (· < ·) := setI_up _
theorem plc_mem {ns : Nt} {x : Int} : x ∈ plc ns ↔ ∃ i, i < ns.length ∧ cl ns i = x := by
  unfold plc clips
  rw [setI_mem, List.mem_map]
  simp only [List.mem_range]
theorem plcL_is {ns : Nt} : plcL ns = plc ns ∨ (plcL ns = 0 :: plc ns ∧ ∀ x ∈ plc ns, 0 < x) := by
  by_cases h : (0 : Int) ∈ plc ns
  · refine .inl (up_eq (setI_up _) (plc_up ns) fun k => ?_)
    unfold plcL
    rw [setI_mem, List.mem_cons]
    unfold plc at h ⊢
    rw [setI_mem] at h ⊢
    constructor
    · rintro (rfl | h') <;> assumption
    · exact .inr
  · have pos : ∀ x ∈ plc ns, 0 < x := fun x hx => by
      have hx' := hx
      obtain ⟨i, _, e⟩ := plc_mem.mp hx
      have : x ≠ 0 := fun e0 => h (e0 ▸ hx')
      unfold cl at e
      omega
    refine .inr ⟨up_eq (setI_up _) (List.pairwise_cons.mpr ⟨pos, plc_up ns⟩) fun k => ?_, pos⟩
    unfold plcL plc
    rw [setI_mem, List.mem_cons, List.mem_cons, setI_mem]
theorem plc_ne {ns : Nt} (h1 : ns ≠ []) : 1 ≤ (plc ns).length := by
  have hp := ne_pos h1
  have : cl ns 0 ∈ plc ns := plc_mem.mpr ⟨0, by omega, rfl⟩
  exact List.length_pos_of_mem this
/-- both ways give the same sum -/
def lsum (ns : Nt) : Int := dp ns (plc ns) ns.length ((plc ns).length - 1)
theorem sums_same {ns : Nt} (h1 : ns ≠ []) : minI ((List.range (plcL ns).length).map (lp ns (plcL ns) ns.length)) = lsum ns := by
  have hp := plc_ne h1
  unfold lsum
  rcases plcL_is (ns := ns) with e | ⟨e, pos⟩
  · rw [e]
    obtain ⟨m, em⟩ : ∃ m, (plc ns).length = m + 1 := ⟨(plc ns).length - 1, by omega⟩
    rw [em, minI_pm, lp_dp]; rfl
  · rw [e]
    obtain ⟨m, em⟩ : ∃ m, (plc ns).length = m + 1 := ⟨(plc ns).length - 1, by omega⟩
    rw [List.length_cons, em, minI_pm, lp_dp]
    have h0 : 0 < T (plc ns) 0 := pos _ (T_mem (by omega))
    refine (dp_zero h0 (fun i hi => ?_) ns.length (Nat.le_refl _) m).trans rfl
    have hc : cl ns i ∈ plc ns := plc_mem.mpr ⟨i, hi, rfl⟩
    have hc0 := pos _ hc
    have : T (plc ns) 0 ≤ cl ns i := by
      obtain ⟨j, hj, ej⟩ := List.getElem_of_mem hc
      have e2 := T_get (t := plc ns) (i := j) hj
      rw [List.getElem?_eq_getElem hj] at e2
      have e3 : T (plc ns) j = cl ns i := by rw [← ej]; exact (Option.some.inj e2).symm
      rw [← e3]
      by_cases z : j = 0
      · subst z; exact Int.le_refl _
      · exact Int.le_of_lt (up_T (plc_up ns) (by omega) hj)
    unfold cl at this hc0
    omega
/-! the way back -/
def dn (g : Nat → Int) : Nat → Nat
  | 0 => 0
  | a + 1 => if g a = g (a + 1) then dn g a else a + 1
theorem dn_le (g : Nat → Int) : ∀ a, dn g a ≤ a
  | 0 => Nat.le_refl _
  | a + 1 => by
    unfold dn
    split
    · have := dn_le g a; omega
    · omega
theorem dn_eq (g : Nat → Int) : ∀ a, g (dn g a) = g a
  | 0 => rfl
  | a + 1 => by
    unfold dn
    split
    · next h => rw [dn_eq g a, h]
    · rfl
theorem dn_stop (g : Nat → Int) : ∀ a b, dn g a = b + 1 → g b ≠ g (b + 1)
  | 0, b, h => by cases h
  | a + 1, b, h => by
    unfold dn at h
    split at h
    · exact dn_stop g a b h
    · next hn =>
      have : a = b := by omega
      subst this; exact hn
theorem dn_pm (f : Nat → Int) (a : Nat) : pm f a = f (dn (pm f) a) := by
  rw [← dn_eq (pm f) a]
  cases e : dn (pm f) a with
  | zero => rfl
  | succ b =>
    have := dn_stop (pm f) a b e
    have h2 : pm f (b + 1) = min (f (b + 1)) (pm f b) := rfl
    rw [h2] at this ⊢
    omega
/-- the places on the way back: ats j = the place of note n - j -/
def atB (ns : Nt) : Nat → Nat
  | 0 => (plc ns).length - 1
  | j + 1 => dn (dp ns (plc ns) (ns.length - j)) (atB ns j)
def at' (ns : Nt) (i : Nat) : Nat := atB ns (ns.length - i)
theorem at_step {ns : Nt} {i : Nat} (h : i < ns.length) : at' ns i = dn (dp ns (plc ns) (i + 1)) (at' ns (i + 1)) := by
  unfold at'
  obtain ⟨j, e⟩ : ∃ j, ns.length - i = j + 1 := ⟨ns.length - i - 1, by omega⟩
  rw [e, show ns.length - (i + 1) = j by omega]
  show dn (dp ns (plc ns) (ns.length - j)) (atB ns j) = _
  rw [show ns.length - j = i + 1 by omega]
theorem at_top (ns : Nt) : at' ns ns.length = (plc ns).length - 1 := by unfold at'; rw [Nat.sub_self]; rfl
theorem at_mono {ns : Nt} {i : Nat} (h : i < ns.length) : at' ns i ≤ at' ns (i + 1) := by rw [at_step h]; exact dn_le _ _
theorem at_lt {ns : Nt} (h1 : ns ≠ []) : ∀ j, atB ns j < (plc ns).length
  | 0 => by have := plc_ne h1; show (plc ns).length - 1 < _; omega
  | j + 1 => Nat.lt_of_le_of_lt (dn_le _ _) (at_lt h1 j)
def some' (ns : Nt) : List Int := (List.range ns.length).map fun i => T (plc ns) (at' ns i) + A ns i
theorem some_len (ns : Nt) : (some' ns).length = ns.length := by unfold some'; simp
theorem some_T {ns : Nt} {i : Nat} (h : i < ns.length) : T (some' ns) i = T (plc ns) (at' ns i) + A ns i := by
  unfold T some'
  rw [List.getElem?_map, List.getElem?_range h]; rfl
theorem A_nn {ns : Nt} (h : Ok ns) : ∀ i, i ≤ ns.length → 0 ≤ A ns i
  | 0, _ => Int.le_refl 0
  | i + 1, hi => by
    have h1 := A_nn h i (by omega)
    have h2 := A_step (ns := ns) (i := i) (by omega)
    have h3 := H_pos h (i := i) (by omega)
    omega
theorem plc_nn {ns : Nt} (h1 : ns ≠ []) (j : Nat) : 0 ≤ T (plc ns) (atB ns j) := by
  obtain ⟨i, _, e⟩ := plc_mem.mp (T_mem (at_lt h1 j))
  rw [← e]
  unfold cl; omega
theorem plc_mono {ns : Nt} {i j : Nat} (h : i ≤ j) (hj : j < (plc ns).length) : T (plc ns) i ≤ T (plc ns) j := by
  by_cases e : i = j
  · subst e; exact Int.le_refl _
  · exact Int.le_of_lt (up_T (plc_up ns) (by omega) hj)
theorem some_good {ns : Nt} (h : Ok ns) (h1 : ns ≠ []) : Good ns (some' ns) := by
  refine ⟨some_len ns, fun i hi => ?_, fun i hi => ?_⟩
  · rw [some_T hi]
    have h2 := plc_nn h1 (ns.length - i)
    have h3 := A_nn h i (by omega)
    unfold at'
    omega
  · rw [some_T (by omega), some_T hi, A_step (by omega)]
    have h2 := plc_mono (ns := ns) (at_mono (ns := ns) (i := i) (by omega)) (at_lt h1 (ns.length - (i + 1)))
    omega
theorem dp_back {ns : Nt} : ∀ i, i ≤ ns.length → dp ns (plc ns) i (at' ns i) = ((List.range i).map fun j => ab (T (plc ns) (at' ns j) - sw ns j)).sum
  | 0, _ => rfl
  | i + 1, hi => by
    have h1 : dp ns (plc ns) (i + 1) (at' ns (i + 1)) = dp ns (plc ns) i (at' ns i) + ab (T (plc ns) (at' ns i) - sw ns i) := by
      have h2 := dn_pm (fun j => dp ns (plc ns) i j + ab (T (plc ns) j - sw ns i)) (at' ns (i + 1))
      have h3 : at' ns i = dn (dp ns (plc ns) (i + 1)) (at' ns (i + 1)) := at_step (by omega)
      rw [h3]
      exact h2
    rw [h1, dp_back i (by omega), List.range_succ, List.map_append, List.sum_append]
    simp
theorem some_sum (ns : Nt) : ((List.range ns.length).map fun i => ab (T (some' ns) i - W ns i)).sum = lsum ns := by
  have h := dp_back (ns := ns) ns.length (Nat.le_refl _)
  rw [at_top] at h
  unfold lsum
  rw [h]
  congr 1
  refine List.map_congr_left fun i hi => ?_
  rw [some_T (List.mem_range.mp hi)]
  unfold sw
  congr 1
  omega
end K07
set_option Elab.async false
set_option linter.all false
set_option maxRecDepth 100000
namespace K07
open PySem PySem.Spec L2 DL
def wl (ns : Nt) : List Int := (List.range ns.length).map (sw ns)
theorem heads_T {ns : Nt} {n i : Nat} (h : i < n) : (iL (heads ns n))[i]? = some (.int (A ns i)) := by
  have hl : i < (heads ns n).length := by rw [heads_len]; exact h
  rw [iL_get hl]
  congr 2
  unfold T heads
  rw [List.getElem?_map, List.getElem?_range h]; rfl
theorem wishes_ok {ns : Nt} (h : Ok ns) : V_shifted_wishes [nt ns] = some (.frL (iL (wl ns))) := by
  have hz := h.len
  have c1 : eComp [1, 2] (eZip2 (eCons (eVar 0) (eCons (eCall 1 V_heights_ahead (eCons (eVar 0) eNil)) eNil))) (gT 2 (gsC (gN 1) (gsC (gN 2) gsN))) (pur true) B_shifted_wishes_1 [.val (nt ns), .un, .un] = some (.frL (iL (wl ns)), [.val (nt ns), .un, .un]) := by
    rw [eComp_idx (n := ns.length) (ρ1 := [.val (nt ns), .un, .un]) (ρ2 := [.val (nt ns), .un, .un]) (items := zip2D (ns.map pairD) (iL (heads ns ns.length))) (fun i => .tuple [pairD (W ns i, Hh ns i), .int (A ns i)]) (fun i => .int (sw ns i)) (by simp [ahead_ok h]) (by rw [zip2_len, iL_len, heads_len, List.length_map]; omega) (by omega) (by simp) (fun i hi => zip2_at (by rw [List.getElem?_map, W_get (by omega)]; rfl) (heads_T hi)) fun i hi => ?_]
    · rw [iL_map]; simp [wl]
    · refine ⟨[.val (nt ns), .val (pairD (W ns i, Hh ns i)), .val (.int (A ns i))], [.val (nt ns), .val (pairD (W ns i, Hh ns i)), .val (.int (A ns i))], by simp, ?_, by simp⟩
      simp [pair0, sw]
  unfold V_shifted_wishes
  simp [c1]
/-! the keys of the dict -/
def addK (ks : List Int) (k : Int) : List Int := if k ∈ ks then ks else ks ++ [k]
def kb (ks : List Int) : List (PD × PD) := ks.map fun k => (.int k, .bool true)
theorem kb_any (ks : List Int) (k : Int) : ((kb ks).any fun e => keyEq e.1 (.inl k)) = decide (k ∈ ks) := by
  induction ks with
  | nil => rfl
  | cons a r ih =>
    have : kb (a :: r) = (.int a, .bool true) :: kb r := rfl
    rw [this, List.any_cons, ih]
    show (decide (a = k) || _) = _
    rw [Bool.eq_iff_iff]
    simp
    constructor
    · rintro (h | h)
      · exact .inl h.symm
      · exact .inr h
    · rintro (h | h)
      · exact .inl h.symm
      · exact .inr h
theorem put_kb (ks : List Int) (k : Int) : putD (kb ks) (.inl k) (.bool true) = kb (addK ks k) := by
  unfold putD
  rw [kb_any]
  by_cases h : k ∈ ks
  · rw [if_pos (decide_eq_true h)]
    have : addK ks k = ks := by unfold addK; rw [if_pos h]
    rw [this]
    have : ∀ l : List Int, (kb l).map (fun e => if keyEq e.1 (.inl k) = true then (e.1, PyData.bool true) else e) = kb l := fun l => by
      unfold kb
      rw [List.map_map]
      refine List.map_congr_left fun a _ => ?_
      simp
    exact this ks
  · rw [if_neg (by simpa using h)]
    unfold addK
    rw [if_neg h]
    unfold kb
    rw [List.map_append]; rfl
theorem addK_nodup {ks : List Int} (h : ks.Nodup) (k : Int) : (addK ks k).Nodup := by
  unfold addK
  split
  · exact h
  · next hn =>
    rw [List.nodup_append]
    refine ⟨h, by simp, fun a ha b hb => ?_⟩
    have : b = k := by simpa using hb
    subst this
    exact fun e => hn (e ▸ ha)
theorem addK_mem {ks : List Int} {k x : Int} : x ∈ addK ks k ↔ x ∈ ks ∨ x = k := by
  unfold addK
  split
  · next h => exact ⟨.inl, fun z => z.elim id fun e => e ▸ h⟩
  · simp
theorem addK_len (ks : List Int) (k : Int) : (addK ks k).length ≤ ks.length + 1 := by
  unfold addK
  split <;> simp
theorem fold_nodup : ∀ (l ks : List Int), ks.Nodup → (l.foldl addK ks).Nodup
  | [], _, h => h
  | a :: l, ks, h => fold_nodup l _ (addK_nodup h a)
theorem fold_mem {x : Int} : ∀ {l ks : List Int}, x ∈ l.foldl addK ks ↔ x ∈ ks ∨ x ∈ l
  | [], ks => by simp
  | a :: l, ks => by
    rw [List.foldl_cons, fold_mem, addK_mem, List.mem_cons]
    constructor
    · rintro ((h | h) | h) <;> simp [h]
    · rintro (h | h | h) <;> simp [h]
theorem fold_len : ∀ (l ks : List Int), (l.foldl addK ks).length ≤ ks.length + l.length
  | [], ks => by simp
  | a :: l, ks => by
    have h1 := fold_len l (addK ks a)
    have h2 := addK_len ks a
    rw [List.foldl_cons, List.length_cons]
    omega
theorem srt_fold (l : List Int) : srtI (l.foldl addK []) = setI l := by
  refine up_eq ?_ (setI_up l) fun k => ?_
  · have h1 := srtI_le (l.foldl addK [])
    have h2 : (srtI (l.foldl addK [])).Nodup := (srtI_perm _).nodup_iff.mpr (fold_nodup l [] .nil)
    exact (List.pairwise_and_iff.mpr ⟨h1, h2⟩).imp fun ⟨a, b⟩ => by omega
  · rw [(srtI_perm _).mem_iff, fold_mem, setI_mem]
    simp
theorem gSrt_kb {ks : List Int} (h : ks.length < 64) : gSrt [.dict (kb ks)] = some (.frL (iL (srtI ks))) := by
  have : (kb ks).map (·.1) = ks.map PyData.int := by unfold kb; rw [List.map_map]; rfl
  unfold gSrt
  simp only
  rw [this, intsD_map]
  simp only [if_pos h]
  rfl
theorem dcomp_ok (r0 r1 r2 r3 r4 r6 r7 r8 r9 : SV) : ∀ (l ks : List Int), dcompD [5] (gN 5) (pur true) (eKey (eOp gMax (eCons (eC (.int 0)) (eCons (eVar 5) eNil)))) (eC (.bool true)) (iL l) (kb ks) [r0, r1, r2, r3, r4, .un, r6, r7, r8, r9] = some (kb ((l.map (max 0)).foldl addK ks), [r0, r1, r2, r3, r4, .un, r6, r7, r8, r9])
  | [], ks => rfl
  | a :: l, ks => by
    have ih := dcomp_ok r0 r1 r2 r3 r4 r6 r7 r8 r9 l (addK ks (max 0 a))
    show dcompD _ _ _ _ _ (.int a :: iL l) _ _ = _
    have mx : (if a > 0 then a else 0) = max 0 a := maxIf 0 a
    have ek : eKey (eOp gMax (eCons (eC (.int 0)) (eCons (eVar 5) eNil))) [r0, r1, r2, r3, r4, .val (.int a), r6, r7, r8, r9] = some (.inl (max 0 a), [r0, r1, r2, r3, r4, .val (.int a), r6, r7, r8, r9]) := by
      unfold eKey
      simp only [gt_iff_lt] at mx
      simp [mx]
    have e1 : gN 5 (.int a) [r0, r1, r2, r3, r4, .un, r6, r7, r8, r9] = some [r0, r1, r2, r3, r4, .val (.int a), r6, r7, r8, r9] := by simp
    have e2 : eFrz (eC (.bool true)) [r0, r1, r2, r3, r4, .val (.int a), r6, r7, r8, r9] = some (.bool true, [r0, r1, r2, r3, r4, .val (.int a), r6, r7, r8, r9]) := by simp
    have e3 : wipeE [5] [r0, r1, r2, r3, r4, .val (.int a), r6, r7, r8, r9] = some [r0, r1, r2, r3, r4, .un, r6, r7, r8, r9] := by simp
    simp only [dcompD, e1, pur, ek, e2, e3, put_kb, ih]
    rfl
/-! rows -/
def row (f : Nat → Int) (n : Nat) : List Int := (List.range n).map (pm f)
theorem row_succ (f : Nat → Int) (n : Nat) : row f (n + 1) = row f n ++ [pm f n] := map_succ _ _
theorem row_len (f : Nat → Int) (n : Nat) : (row f n).length = n := by unfold row; simp
theorem gMin2 (i j : Int) : gMin [.int i, .int j] = some (.dat (.int (min i j))) := by
  rw [x_gMin]
  congr 3
  split <;> omega
theorem row_ok (a0 a1 a2 a3 a4 : SV) (x : Int) (q last : List Int) (hl : last.length = q.length) (hq : q.length ≤ 1000) (s7 s8 s9 : SV) (h7 : Fr s7) (h8 : Fr s8) (h9 : Fr s9) (f : Nat → Int) (hf : ∀ k, f k = T last k + ab (T q k - x)) :
    ∃ ρ', forD (gT 2 (gsC (gN 7) (gsC (gN 8) gsN))) B_sum_rows_1 (zip2D (iL q) (iL last)) [a0, a1, a2, a3, a4, .val (.int x), .own [], s7, s8, s9] = some (.nx, ρ') ∧
      ∃ s7 s8 s9, Fr s7 ∧ Fr s8 ∧ Fr s9 ∧ ρ' = [a0, a1, a2, a3, a4, .val (.int x), .own (iL (row f q.length)), s7, s8, s9] := by
  obtain ⟨ρ', e1, e2⟩ := forD_all (g := gT 2 (gsC (gN 7) (gsC (gN 8) gsN))) (fb := B_sum_rows_1) (items := zip2D (iL q) (iL last)) (ρ := [a0, a1, a2, a3, a4, .val (.int x), .own [], s7, s8, s9])
    (fun k ρ => ∃ s7 s8 s9, Fr s7 ∧ Fr s8 ∧ Fr s9 ∧ ρ = [a0, a1, a2, a3, a4, .val (.int x), .own (iL (row f k)), s7, s8, s9]) ⟨s7, s8, s9, h7, h8, h9, rfl⟩ fun k d ρ e ⟨s7, s8, s9, h7, h8, h9, eρ⟩ => by
      subst eρ
      have hk : k < q.length := by
        have := (List.getElem?_eq_some_iff.mp e).1
        rw [zip2_len, iL_len, iL_len] at this
        omega
      rw [zip2_at (iL_get hk) (iL_get (t := last) (by omega))] at e
      cases e
      refine ⟨[a0, a1, a2, a3, a4, .val (.int x), .own (iL (row f k)), .val (.int (T q k)), .val (.int (T last k)), s9], [a0, a1, a2, a3, a4, .val (.int x), .own (iL (row f (k + 1))), .val (.int (T q k)), .val (.int (T last k)), .val (.int (f k))], ?_, ?_, _, _, _, Fr.val _, Fr.val _, Fr.val _, rfl⟩
      · simp [h7, h8]
      · have e9 : T last k + (if T q k - x < 0 then -(T q k - x) else T q k - x) = f k := by rw [hf]; rfl
        have t1 : (iL (row f k)).length < 16777216 := by rw [iL_len, row_len]; omega
        have t0 : (iL (row f k)).length = k := by rw [iL_len, row_len]
        cases k with
        | zero =>
          have z : iL (row f 0) = [] := rfl
          have z1 : iL (row f (0 + 1)) = [.int (f 0)] := rfl
          simp [h9, e9, z]
          exact z1.symm
        | succ k =>
          have z := iL_last (row f k) (pm f k)
          rw [← row_succ] at z
          have z1 : iL (row f (k + 1 + 1)) = iL (row f (k + 1)) ++ [.int (min (f (k + 1)) (pm f k))] := by rw [row_succ f (k + 1), iL_app]; rfl
          have z2 : 0 < (iL (row f (k + 1))).length := by omega
          simp [h9, e9, z, z2, t1, gMin2, z1, -x_gMin]
  rw [zip2_len, iL_len, iL_len, hl, Nat.min_self] at e2
  exact ⟨ρ', e1, e2⟩
end K07
set_option Elab.async false
set_option linter.all false
set_option maxRecDepth 100000
namespace K07
open PySem PySem.Spec L2 DL
def dpr (ns : Nt) (i : Nat) : List Int := (List.range (plc ns).length).map (dp ns (plc ns) i)
theorem dpr_len (ns : Nt) (i : Nat) : (dpr ns i).length = (plc ns).length := by unfold dpr; simp
theorem dpr_T {ns : Nt} {i k : Nat} (h : k < (plc ns).length) : T (dpr ns i) k = dp ns (plc ns) i k := by
  unfold T dpr
  rw [List.getElem?_map, List.getElem?_range h]; rfl
theorem dpr_succ (ns : Nt) (i : Nat) : row (fun k => T (dpr ns i) k + ab (T (plc ns) k - sw ns i)) (plc ns).length = dpr ns (i + 1) := by
  show (List.range (plc ns).length).map (pm _) = (List.range (plc ns).length).map (dp ns (plc ns) (i + 1))
  refine List.map_congr_left fun k hk => ?_
  have hk := List.mem_range.mp hk
  show pm _ k = pm _ k
  refine pm_congr fun j hj => ?_
  rw [dpr_T (by omega)]
def rowsD (ns : Nt) (i : Nat) : List PD := (List.range i).map fun j => .list (iL (dpr ns (j + 1)))
theorem rowsD_succ (ns : Nt) (i : Nat) : rowsD ns (i + 1) = rowsD ns i ++ [.list (iL (dpr ns (i + 1)))] := by
  unfold rowsD; rw [List.range_succ, List.map_append]; rfl
theorem rowsD_len (ns : Nt) (i : Nat) : (rowsD ns i).length = i := by unfold rowsD; simp
theorem zeros (n : Nat) : (List.replicate n [PyData.int 0]).flatten = iL ((List.range n).map fun _ => 0) := by
  induction n with
  | zero => rfl
  | succ n ih =>
    rw [List.replicate_succ, List.flatten_cons, ih, List.range_succ_eq_map]
    simp [iL]
theorem plc_len {ns : Nt} : (plc ns).length ≤ ns.length := by
  have h1 := srt_fold (clips ns)
  have h2 := fold_len (clips ns) []
  have h3 := (srtI_perm ((clips ns).foldl addK [])).length_eq
  unfold plc
  rw [← h1, h3]
  have : (clips ns).length = ns.length := by unfold clips; simp
  have e0 : ([] : List Int).length = 0 := rfl
  omega
def Lk (s : SV) (ds : List PD) : Prop := s = .own ds ∨ s = .val (.list ds)
theorem zipLk {r : En} {i j : Nat} {a b : SV} {x y : List PD} (ei : r[i]? = some a) (ej : r[j]? = some b) (hij : i ≠ j) (ha : Lk a x) (hb : Lk b y) : eZip2 (eCons (eVar i) (eCons (eVar j) eNil)) r = some (zip2D x y, (r.set i (.val (.list x))).set j (.val (.list y))) := by
  have si : ∀ {ρ : En} {k : Nat} {s : SV}, ρ[k]? = some s → ρ.set k s = ρ := fun {ρ k s} e => by
    apply List.ext_getElem?
    intro m
    by_cases h : k = m
    · subst h; rw [List.getElem?_set_self (List.getElem?_eq_some_iff.mp e).1, e]
    · rw [List.getElem?_set_ne h]
  have hj : (r.set i (.val (.list x)))[j]? = some b := by rw [List.getElem?_set_ne hij]; exact ej
  rcases ha with rfl | rfl <;> rcases hb with rfl | rfl
  · simp [ei, ej, hj]
  · simp [ei, ej, hj]
    rw [si hj]
  · simp [ei, ej]
    rw [si ei]
  · have e1 := si ei
    rw [e1] at hj
    simp [ei, ej]
    rw [e1, si hj]
theorem rows_loop {ns : Nt} (h : Ok ns) (a2 : SV) (h2 : Lk a2 (iL (plc ns))) : ∃ ρ', forD (gN 5) B_sum_rows_2 (iL (wl ns)) [.val (nt ns), .val (.list (iL (wl ns))), a2, .own [], .own (iL (dpr ns 0)), .un, .un, .un, .un, .un] = some (.nx, ρ') ∧
    ∃ a2 a4 s5 s6 s7 s8 s9, Lk a2 (iL (plc ns)) ∧ ρ' = [.val (nt ns), .val (.list (iL (wl ns))), a2, .own (rowsD ns ns.length), a4, s5, s6, s7, s8, s9] := by
  have hz := h.len
  have hp := plc_len (ns := ns)
  obtain ⟨ρ', e1, a2, a4, s5, s6, s7, s8, s9, h2, _, _, _, _, _, _, e2⟩ := forD_all (g := gN 5) (fb := B_sum_rows_2) (items := iL (wl ns)) (ρ := [.val (nt ns), .val (.list (iL (wl ns))), a2, .own [], .own (iL (dpr ns 0)), .un, .un, .un, .un, .un])
    (fun i ρ => ∃ a2 a4 s5 s6 s7 s8 s9, Lk a2 (iL (plc ns)) ∧ Lk a4 (iL (dpr ns i)) ∧ Fr s5 ∧ Fr s6 ∧ Fr s7 ∧ Fr s8 ∧ Fr s9 ∧ ρ = [.val (nt ns), .val (.list (iL (wl ns))), a2, .own (rowsD ns i), a4, s5, s6, s7, s8, s9]) ⟨a2, _, .un, .un, .un, .un, .un, h2, .inl rfl, Fr.un, Fr.un, Fr.un, Fr.un, Fr.un, rfl⟩ fun i d ρ e ⟨a2, a4, s5, s6, s7, s8, s9, h2, h4, h5, h6, h7, h8, h9, eρ⟩ => by
      subst eρ
      have hi : i < ns.length := by
        have := (List.getElem?_eq_some_iff.mp e).1
        rw [iL_len] at this
        unfold wl at this
        simpa using this
      have ex : (iL (wl ns))[i]? = some (.int (sw ns i)) := by
        unfold wl
        rw [← iL_map, List.getElem?_map, List.getElem?_range hi]; rfl
      rw [ex] at e
      cases e
      obtain ⟨ρ1, f1, t7, t8, t9, f7, f8, f9, rfl⟩ := row_ok (.val (nt ns)) (.val (.list (iL (wl ns)))) (.val (.list (iL (plc ns)))) (.own (rowsD ns i)) (.val (.list (iL (dpr ns i)))) (sw ns i) (plc ns) (dpr ns i) (dpr_len ns i) (by omega) s7 s8 s9 h7 h8 h9 _ (fun _ => rfl)
      rw [dpr_succ] at f1
      have ez := zipLk (r := [.val (nt ns), .val (.list (iL (wl ns))), a2, .own (rowsD ns i), a4, .val (.int (sw ns i)), .own [], s7, s8, s9]) (i := 2) (j := 4) (x := iL (plc ns)) (y := iL (dpr ns i)) rfl rfl (by decide) h2 h4
      have t1 : (rowsD ns i).length < 16777216 := by rw [rowsD_len]; omega
      refine ⟨[.val (nt ns), .val (.list (iL (wl ns))), a2, .own (rowsD ns i), a4, .val (.int (sw ns i)), s6, s7, s8, s9], [.val (nt ns), .val (.list (iL (wl ns))), .val (.list (iL (plc ns))), .own (rowsD ns (i + 1)), .val (.list (iL (dpr ns (i + 1)))), .val (.int (sw ns i)), .val (.list (iL (dpr ns (i + 1)))), t7, t8, t9], by simp [h5], ?_, _, _, _, _, t7, t8, t9, .inr rfl, .inr rfl, Fr.val _, Fr.val _, f7, f8, f9, rfl⟩
      have b1 : sSet 6 (eLst eNil) [.val (nt ns), .val (.list (iL (wl ns))), a2, .own (rowsD ns i), a4, .val (.int (sw ns i)), s6, s7, s8, s9] = some (.nx, [.val (nt ns), .val (.list (iL (wl ns))), a2, .own (rowsD ns i), a4, .val (.int (sw ns i)), .own [], s7, s8, s9]) := by simp [h6]
      have b2 : sFor (eZip2 (eCons (eVar 2) (eCons (eVar 4) eNil))) (gT 2 (gsC (gN 7) (gsC (gN 8) gsN))) B_sum_rows_1 [.val (nt ns), .val (.list (iL (wl ns))), a2, .own (rowsD ns i), a4, .val (.int (sw ns i)), .own [], s7, s8, s9] = some (.nx, [.val (nt ns), .val (.list (iL (wl ns))), .val (.list (iL (plc ns))), .own (rowsD ns i), .val (.list (iL (dpr ns i))), .val (.int (sw ns i)), .own (iL (dpr ns (i + 1))), t7, t8, t9]) := by
        rw [x_sFor, ez]
        exact f1
      unfold B_sum_rows_2
      rw [seq_nx b1, seq_nx b2]
      simp [t1, rowsD_succ]
  have el : (iL (wl ns)).length = ns.length := by rw [iL_len]; unfold wl; simp
  rw [el] at e2
  exact ⟨ρ', e1, a2, a4, s5, s6, s7, s8, s9, h2, e2⟩
theorem rows_ok {ns : Nt} (h : Ok ns) : V_sum_rows [nt ns] = some (.dat (.tuple [.list (iL (plc ns)), .list (rowsD ns ns.length)])) := by
  have hz := h.len
  have hp := plc_len (ns := ns)
  have k1 : sSet 1 (eCall 1 V_shifted_wishes (eCons (eVar 0) eNil)) [.val (nt ns), .un, .un, .un, .un, .un, .un, .un, .un, .un] = some (.nx, [.val (nt ns), .own (iL (wl ns)), .un, .un, .un, .un, .un, .un, .un, .un]) := by
    simp [wishes_ok h]
  have ek : (wl ns).map (max 0) = clips ns := by
    unfold wl clips
    rw [List.map_map]; rfl
  have d0 := dcomp_ok (.val (nt ns)) (.val (.list (iL (wl ns)))) .un .un .un .un .un .un .un (wl ns) []
  rw [ek] at d0
  have ec : eDComp [5] (eIt (eVar 1)) (gN 5) (pur true) (eKey (eOp gMax (eCons (eC (.int 0)) (eCons (eVar 5) eNil)))) (eC (.bool true)) [.val (nt ns), .own (iL (wl ns)), .un, .un, .un, .un, .un, .un, .un, .un] = some (.frD (kb ((clips ns).foldl addK [])), [.val (nt ns), .val (.list (iL (wl ns))), .un, .un, .un, .un, .un, .un, .un, .un]) := by
    have ei : eIt (eVar 1) [.val (nt ns), .own (iL (wl ns)), .un, .un, .un, .un, .un, .un, .un, .un] = some (iL (wl ns), [.val (nt ns), .val (.list (iL (wl ns))), .un, .un, .un, .un, .un, .un, .un, .un]) := by simp
    have ew : wipeE [5] [.val (nt ns), .val (.list (iL (wl ns))), .un, .un, .un, .un, .un, .un, .un, .un] = some [.val (nt ns), .val (.list (iL (wl ns))), .un, .un, .un, .un, .un, .un, .un, .un] := by simp
    unfold eDComp
    rw [bnd_of ei]
    have : (iL (wl ns)).length ≤ sizeLine := by rw [iL_len]; unfold wl; simp; omega
    simp only [if_pos this, ew]
    have d1 : dcompD [5] (gN 5) (pur true) (eKey (eOp gMax (eCons (eC (.int 0)) (eCons (eVar 5) eNil)))) (eC (.bool true)) (iL (wl ns)) [] [.val (nt ns), .val (.list (iL (wl ns))), .un, .un, .un, .un, .un, .un, .un, .un] = _ := d0
    rw [d1]
    simp
  have kl : ((clips ns).foldl addK []).length < 64 := by
    have h2 := fold_len (clips ns) []
    have : (clips ns).length = ns.length := by unfold clips; simp
    have e0 : ([] : List Int).length = 0 := rfl
    omega
  have eg := gSrt_kb kl
  rw [srt_fold] at eg
  have k2 : sSet 2 (eOp gSrt (eCons (eDComp [5] (eIt (eVar 1)) (gN 5) (pur true) (eKey (eOp gMax (eCons (eC (.int 0)) (eCons (eVar 5) eNil)))) (eC (.bool true))) eNil)) [.val (nt ns), .own (iL (wl ns)), .un, .un, .un, .un, .un, .un, .un, .un] = some (.nx, [.val (nt ns), .val (.list (iL (wl ns))), .own (iL (plc ns)), .un, .un, .un, .un, .un, .un, .un]) := by
    simp [ec, eg]; rfl
  have er := repOk_of (n := 1) (k := ((plc ns).length : Int)) (by omega) (by omega) (by simp; omega)
  have ez : (List.replicate (plc ns).length [PyData.int 0]).flatten = iL (dpr ns 0) := zeros _
  have lp : (iL (plc ns)).length = (plc ns).length := iL_len _
  have k3 : sPar 3 4 (eCons (eLst eNil) (eCons (e2 gMul (eLst (eCons (eC (.int 0)) eNil)) (eOp gLen (eCons (eVar 2) eNil))) eNil)) [.val (nt ns), .val (.list (iL (wl ns))), .own (iL (plc ns)), .un, .un, .un, .un, .un, .un, .un] = some (.nx, [.val (nt ns), .val (.list (iL (wl ns))), .own (iL (plc ns)), .own [], .own (iL (dpr ns 0)), .un, .un, .un, .un, .un]) := by
    simp [lp, er, ez, -List.flatten_replicate_singleton]
  obtain ⟨ρ', f1, a2, a4, s5, s6, s7, s8, s9, h2, rfl⟩ := rows_loop h (.own (iL (plc ns))) (.inl rfl)
  have k4 : sFor (eIt (eVar 1)) (gN 5) B_sum_rows_2 [.val (nt ns), .val (.list (iL (wl ns))), .own (iL (plc ns)), .own [], .own (iL (dpr ns 0)), .un, .un, .un, .un, .un] = some (.nx, [.val (nt ns), .val (.list (iL (wl ns))), a2, .own (rowsD ns ns.length), a4, s5, s6, s7, s8, s9]) := by
    simp [f1]
  unfold V_sum_rows
  rw [x_runD]
  show rsD (B_sum_rows [.val (nt ns), .un, .un, .un, .un, .un, .un, .un, .un, .un]) = _
  unfold B_sum_rows
  rw [seq_nx k1, seq_nx k2, seq_nx k3, seq_nx k4]
  rcases h2 with rfl | rfl <;> simp
end K07
set_option Elab.async false
set_option linter.all false
set_option maxRecDepth 100000
namespace K07
open PySem PySem.Spec L2 DL
theorem rows_last {ns : Nt} (h1 : ns ≠ []) : atI (rowsD ns ns.length) (-1) = some (.list (iL (dpr ns ns.length))) := by
  have hp := ne_pos h1
  obtain ⟨m, em⟩ : ∃ m, ns.length = m + 1 := ⟨ns.length - 1, by omega⟩
  rw [em, rowsD_succ]
  exact atI_last _ _
theorem dpr_last {ns : Nt} (h1 : ns ≠ []) : atI (iL (dpr ns ns.length)) (-1) = some (.int (lsum ns)) := by
  have hp := plc_ne h1
  obtain ⟨m, em⟩ : ∃ m, (plc ns).length = m + 1 := ⟨(plc ns).length - 1, by omega⟩
  have : dpr ns ns.length = (List.range m).map (dp ns (plc ns) ns.length) ++ [lsum ns] := by
    unfold dpr lsum
    rw [em, map_succ]; rfl
  rw [this]
  exact iL_last _ _
theorem leastsum_ok {ns : Nt} (h : Ok ns) (h1 : ns ≠ []) : V_least_sum [nt ns] = some (.dat (.int (lsum ns))) := by
  have hp := ne_pos h1
  have g1 : atI [PyData.list (iL (plc ns)), PyData.list (rowsD ns ns.length)] 1 = some (.list (rowsD ns ns.length)) := rfl
  have hl : (0 : Int) < ((rowsD ns ns.length).length : Int) := by rw [rowsD_len]; omega
  have hl' : 0 < (rowsD ns ns.length).length := by rw [rowsD_len]; omega
  unfold V_least_sum
  simp [check_ok h, rows_ok h, g1, hl, hl', rows_last h1, dpr_last h1]
/-! the way back -/
theorem back_while {ns : Nt} (r0 r1 r3 r4 : SV) {i : Nat} (hi : i < ns.length) : ∀ (a fuel : Nat), a < (plc ns).length → a < fuel →
    whileD B_sum_spots_1 B_sum_spots_2 fuel [r0, r1, .val (.list (rowsD ns ns.length)), r3, r4, .val (.int (a : Int)), .val (.int (i : Int))] = some (.nx, [r0, r1, .val (.list (rowsD ns ns.length)), r3, r4, .val (.int ((dn (dp ns (plc ns) (i + 1)) a : Nat) : Int)), .val (.int (i : Int))])
  | 0, fuel + 1, _, _ => by
    simp [whileD, dn]
  | a + 1, fuel + 1, ha, hf => by
    have ih := back_while r0 r1 r3 r4 hi a fuel (by omega) (by omega)
    have hr : (rowsD ns ns.length)[i]? = some (.list (iL (dpr ns (i + 1)))) := by
      unfold rowsD
      rw [List.getElem?_map, List.getElem?_range hi]; rfl
    have g0 := atI_nat hr
    have g1 := iL_at (t := dpr ns (i + 1)) (i := a) (by rw [dpr_len]; omega)
    have g2 := iL_at (t := dpr ns (i + 1)) (i := a + 1) (by rw [dpr_len]; omega)
    rw [dpr_T (by omega)] at g1
    rw [dpr_T ha] at g2
    rw [Int.natCast_add] at g2
    have e1 : ((a : Int) + 1) - 1 = (a : Int) := by omega
    have hp : (0 : Int) < (a : Int) + 1 := by omega
    simp only [Int.natCast_one] at g2
    have tst : B_sum_spots_1 [r0, r1, .val (.list (rowsD ns ns.length)), r3, r4, .val (.int ((a + 1 : Nat) : Int)), .val (.int (i : Int))] = some (decide (dp ns (plc ns) (i + 1) a = dp ns (plc ns) (i + 1) (a + 1)), [r0, r1, .val (.list (rowsD ns ns.length)), r3, r4, .val (.int ((a + 1 : Nat) : Int)), .val (.int (i : Int))]) := by
      simp [g0, g1, g2, e1, hp]
    have bod : B_sum_spots_2 [r0, r1, .val (.list (rowsD ns ns.length)), r3, r4, .val (.int ((a + 1 : Nat) : Int)), .val (.int (i : Int))] = some (.nx, [r0, r1, .val (.list (rowsD ns ns.length)), r3, r4, .val (.int (a : Int)), .val (.int (i : Int))]) := by
      simp [e1]
    rw [whileD, tst]
    by_cases hd : dp ns (plc ns) (i + 1) a = dp ns (plc ns) (i + 1) (a + 1)
    · rw [decide_eq_true hd]
      simp only [bod]
      rw [ih]
      have : dn (dp ns (plc ns) (i + 1)) (a + 1) = dn (dp ns (plc ns) (i + 1)) a := by rw [dn, if_pos hd]
      rw [this]
    · rw [decide_eq_false hd]
      have : dn (dp ns (plc ns) (i + 1)) (a + 1) = a + 1 := by rw [dn, if_neg hd]
      rw [this]
def back (ns : Nt) (k : Nat) : List Int := (List.range k).map fun j => T (plc ns) (atB ns (j + 1)) + A ns (ns.length - 1 - j)
theorem back_succ (ns : Nt) (k : Nat) : back ns (k + 1) = back ns k ++ [T (plc ns) (atB ns (k + 1)) + A ns (ns.length - 1 - k)] := map_succ _ _
theorem back_rev (ns : Nt) : (back ns ns.length).reverse = some' ns := by
  apply List.ext_getElem?
  intro i
  by_cases h : i < ns.length
  · have hl : (back ns ns.length).length = ns.length := by unfold back; simp
    rw [List.getElem?_reverse (by omega), hl]
    unfold back some'
    rw [List.getElem?_map, List.getElem?_map, List.getElem?_range (by omega), List.getElem?_range h]
    simp only [Option.map_some]
    rw [show ns.length - 1 - (ns.length - 1 - i) = i by omega]
    unfold at'
    rw [show ns.length - 1 - i + 1 = ns.length - i by omega]
  · rw [List.getElem?_eq_none (by unfold back; simp; omega), List.getElem?_eq_none (by unfold some'; simp; omega)]
theorem iL_rev (l : List Int) : (iL l).reverse = iL l.reverse := by unfold iL; rw [List.map_reverse]
theorem sumspots_ok {ns : Nt} (h : Ok ns) (h1 : ns ≠ []) : V_sum_spots [nt ns] = some (.dat (tp (some' ns))) := by
  have hz := h.len
  have hp := ne_pos h1
  have hq := plc_ne h1
  have hpl := plc_len (ns := ns)
  have k1 : sExpr (eCall 1 V_check_notes (eCons (eVar 0) eNil)) [.val (nt ns), .un, .un, .un, .un, .un, .un] = some (.nx, [.val (nt ns), .un, .un, .un, .un, .un, .un]) := by simp [check_ok h]
  have k2 : sAsg (eCall 1 V_sum_rows (eCons (eVar 0) eNil)) (gT 2 (gsC (gN 1) (gsC (gN 2) gsN))) [.val (nt ns), .un, .un, .un, .un, .un, .un] = some (.nx, [.val (nt ns), .val (.list (iL (plc ns))), .val (.list (rowsD ns ns.length)), .un, .un, .un, .un]) := by simp [rows_ok h]
  have el : ((iL (plc ns)).length : Int) - 1 = ((atB ns 0 : Nat) : Int) := by rw [iL_len]; show _ = (((plc ns).length - 1 : Nat) : Int); omega
  have k3 : sPar3 3 4 5 (eCons (eCall 1 V_heights_ahead (eCons (eVar 0) eNil)) (eCons (eLst eNil) (eCons (DL.e2 gSub (eOp gLen (eCons (eVar 1) eNil)) (eC (.int 1))) eNil))) [.val (nt ns), .val (.list (iL (plc ns))), .val (.list (rowsD ns ns.length)), .un, .un, .un, .un] = some (.nx, [.val (nt ns), .val (.list (iL (plc ns))), .val (.list (rowsD ns ns.length)), .own (iL (heads ns ns.length)), .own (iL (back ns 0)), .val (.int ((atB ns 0 : Nat) : Int)), .un]) := by
    simp [ahead_ok h, el]; rfl
  obtain ⟨ρ', f1, s6, _, rfl⟩ := forD_all (g := gN 6) (fb := B_sum_spots_3) (items := rngDown ((ns.length : Int) - 1) ns.length) (ρ := [.val (nt ns), .val (.list (iL (plc ns))), .val (.list (rowsD ns ns.length)), .own (iL (heads ns ns.length)), .own (iL (back ns 0)), .val (.int ((atB ns 0 : Nat) : Int)), .un])
    (fun k ρ => ∃ s6, Fr s6 ∧ ρ = [.val (nt ns), .val (.list (iL (plc ns))), .val (.list (rowsD ns ns.length)), .own (iL (heads ns ns.length)), .own (iL (back ns k)), .val (.int ((atB ns k : Nat) : Int)), s6]) ⟨.un, Fr.un, rfl⟩ fun k d ρ e ⟨s6, h6, eρ⟩ => by
      subst eρ
      have hk : k < ns.length := by
        have := (List.getElem?_eq_some_iff.mp e).1
        unfold rngDown at this
        simpa using this
      have ed : (rngDown ((ns.length : Int) - 1) ns.length)[k]? = some (.int ((ns.length - 1 - k : Nat) : Int)) := by
        unfold rngDown
        rw [List.getElem?_map, List.getElem?_range hk]
        simp only [Option.map_some]
        congr 2
        omega
      rw [ed] at e
      cases e
      have hb := at_lt h1 k
      have w := back_while (ns := ns) (.val (nt ns)) (.val (.list (iL (plc ns)))) (.own (iL (heads ns ns.length))) (.own (iL (back ns k))) (i := ns.length - 1 - k) (by omega) (atB ns k) 100 hb (by omega)
      have ea : dn (dp ns (plc ns) (ns.length - 1 - k + 1)) (atB ns k) = atB ns (k + 1) := by
        show _ = dn (dp ns (plc ns) (ns.length - k)) (atB ns k)
        rw [show ns.length - 1 - k + 1 = ns.length - k by omega]
      rw [ea] at w
      have g1 := iL_at (t := plc ns) (at_lt h1 (k + 1))
      have g2 := heads_at (ns := ns) (n := ns.length) (i := ns.length - 1 - k) (by omega)
      have t1 : (iL (back ns k)).length < 16777216 := by rw [iL_len]; unfold back; simp; omega
      have eb : iL (back ns (k + 1)) = iL (back ns k) ++ [.int (T (plc ns) (atB ns (k + 1)) + A ns (ns.length - 1 - k))] := by rw [back_succ, iL_app]; rfl
      refine ⟨[.val (nt ns), .val (.list (iL (plc ns))), .val (.list (rowsD ns ns.length)), .own (iL (heads ns ns.length)), .own (iL (back ns k)), .val (.int ((atB ns k : Nat) : Int)), .val (.int ((ns.length - 1 - k : Nat) : Int))], _, by simp [h6], ?_, _, Fr.val (.int ((ns.length - 1 - k : Nat) : Int)), rfl⟩
      unfold B_sum_spots_3
      rw [seq_nx w]
      simp [g1, g2, t1, eb]
  have hr : (rngDown ((ns.length : Int) - 1) ns.length).length = ns.length := by unfold rngDown; simp
  rw [hr] at f1
  have hs1 := smallI_of (i := (ns.length : Int) - 1) (by omega) (by omega)
  have hs2 := smallI_of (i := (-1 : Int)) (by omega) (by omega)
  have en : (((ns.length : Int) - 1) - (-1)).toNat = ns.length := by omega
  have en' : ((ns.length : Int) - 1 + 1).toNat = ns.length := by omega
  have k4 : sFor (eRngD (DL.e2 gSub (eOp gLen (eCons (eVar 0) eNil)) (eC (.int 1))) (DL.e1 gNeg (eC (.int 1)))) (gN 6) B_sum_spots_3 [.val (nt ns), .val (.list (iL (plc ns))), .val (.list (rowsD ns ns.length)), .own (iL (heads ns ns.length)), .own (iL (back ns 0)), .val (.int ((atB ns 0 : Nat) : Int)), .un] = some (.nx, [.val (nt ns), .val (.list (iL (plc ns))), .val (.list (rowsD ns ns.length)), .own (iL (heads ns ns.length)), .own (iL (back ns ns.length)), .val (.int ((atB ns ns.length : Nat) : Int)), s6]) := by
    have er : eRngD (DL.e2 gSub (eOp gLen (eCons (eVar 0) eNil)) (eC (.int 1))) (DL.e1 gNeg (eC (.int 1))) [.val (nt ns), .val (.list (iL (plc ns))), .val (.list (rowsD ns ns.length)), .own (iL (heads ns ns.length)), .own (iL (back ns 0)), .val (.int ((atB ns 0 : Nat) : Int)), .un] = some (rngDown ((ns.length : Int) - 1) ns.length, [.val (nt ns), .val (.list (iL (plc ns))), .val (.list (rowsD ns ns.length)), .own (iL (heads ns ns.length)), .own (iL (back ns 0)), .val (.int ((atB ns 0 : Nat) : Int)), .un]) := by
      simp [hs1, hs2, en, en']
    rw [x_sFor, er]
    exact f1
  unfold V_sum_spots
  rw [x_runD]
  show rsD (B_sum_spots [.val (nt ns), .un, .un, .un, .un, .un, .un]) = _
  unfold B_sum_spots
  rw [seq_nx k1, seq_nx k2, seq_nx k3, seq_nx k4]
  simp [iL_rev, back_rev, tp]
end K07
set_option Elab.async false
set_option linter.all false
set_option maxRecDepth 100000
namespace K07
open PySem PySem.Spec L2 DL
def lpr (ns : Nt) (i : Nat) : List Int := (List.range (plcL ns).length).map (lp ns (plcL ns) i)
theorem lpr_len (ns : Nt) (i : Nat) : (lpr ns i).length = (plcL ns).length := by unfold lpr; simp
theorem lpr_T {ns : Nt} {i k : Nat} (h : k < (plcL ns).length) : T (lpr ns i) k = lp ns (plcL ns) i k := by
  unfold T lpr
  rw [List.getElem?_map, List.getElem?_range h]; rfl
theorem plcL_len {ns : Nt} : (plcL ns).length ≤ ns.length + 1 := by
  have h1 := srt_fold (0 :: clips ns)
  have h2 := fold_len (0 :: clips ns) []
  have h3 := (srtI_perm ((0 :: clips ns).foldl addK [])).length_eq
  unfold plcL
  rw [← h1, h3]
  have : (clips ns).length = ns.length := by unfold clips; simp
  have e0 : ([] : List Int).length = 0 := rfl
  rw [List.length_cons] at h2
  omega
theorem gSrtSet_iL {l : List Int} (h : l.length < 64) : gSrtSet [.list (iL l)] = some (.frL (iL (setI l))) := by
  unfold gSrtSet
  simp only
  rw [intsD_iL]
  simp only [if_pos h]
  rfl
/-- the inner loop -/
def lrow (ns : Nt) (q last : List Int) (i n : Nat) : List Int := (List.range n).map fun k => pm (T last) k + ab (T q k - sw ns i)
theorem lrow_succ (ns : Nt) (q last : List Int) (i n : Nat) : lrow ns q last i (n + 1) = lrow ns q last i n ++ [pm (T last) n + ab (T q n - sw ns i)] := map_succ _ _
theorem lrow_len (ns : Nt) (q last : List Int) (i n : Nat) : (lrow ns q last i n).length = n := by unfold lrow; simp
theorem lrow_lpr (ns : Nt) (i : Nat) : lrow ns (plcL ns) (lpr ns i) i (plcL ns).length = lpr ns (i + 1) := by
  show (List.range (plcL ns).length).map _ = (List.range (plcL ns).length).map (lp ns (plcL ns) (i + 1))
  refine List.map_congr_left fun k hk => ?_
  have hk := List.mem_range.mp hk
  show pm _ k + _ = pm _ k + _
  rw [pm_congr (f := T (lpr ns i)) (g := lp ns (plcL ns) i) fun j hj => lpr_T (by omega)]
def bestD (f : Nat → Int) : Nat → PD
  | 0 => .none
  | k + 1 => .int (pm f k)
theorem lrow_ok {ns : Nt} {i : Nat} (a0 a1 a2 a3 : SV) (q last : List Int) (hl : last.length = q.length) (hq : q.length ≤ 1000) (s8 s9 : SV) (h8 : Fr s8) (h9 : Fr s9) :
    ∃ ρ', forD (gT 2 (gsC (gN 8) (gsC (gN 9) gsN))) B__law_sum_2 (zip2D (iL q) (iL last)) [a0, a1, a2, a3, .val (pairD (W ns i, Hh ns i)), .val (.int (A ns i)), .own [], .val .none, s8, s9] = some (.nx, ρ') ∧
      ∃ s8 s9, Fr s8 ∧ Fr s9 ∧ ρ' = [a0, a1, a2, a3, .val (pairD (W ns i, Hh ns i)), .val (.int (A ns i)), .own (iL (lrow ns q last i q.length)), .val (bestD (T last) q.length), s8, s9] := by
  obtain ⟨ρ', k1, k2⟩ := forD_all (g := gT 2 (gsC (gN 8) (gsC (gN 9) gsN))) (fb := B__law_sum_2) (items := zip2D (iL q) (iL last)) (ρ := [a0, a1, a2, a3, .val (pairD (W ns i, Hh ns i)), .val (.int (A ns i)), .own [], .val .none, s8, s9])
    (fun k ρ => ∃ s8 s9, Fr s8 ∧ Fr s9 ∧ ρ = [a0, a1, a2, a3, .val (pairD (W ns i, Hh ns i)), .val (.int (A ns i)), .own (iL (lrow ns q last i k)), .val (bestD (T last) k), s8, s9]) ⟨s8, s9, h8, h9, rfl⟩ fun k d ρ e ⟨s8, s9, h8, h9, eρ⟩ => by
      subst eρ
      have hk : k < q.length := by
        have := (List.getElem?_eq_some_iff.mp e).1
        rw [zip2_len, iL_len, iL_len] at this
        omega
      rw [zip2_at (iL_get hk) (iL_get (t := last) (by omega))] at e
      cases e
      refine ⟨[a0, a1, a2, a3, .val (pairD (W ns i, Hh ns i)), .val (.int (A ns i)), .own (iL (lrow ns q last i k)), .val (bestD (T last) k), .val (.int (T q k)), .val (.int (T last k))], [a0, a1, a2, a3, .val (pairD (W ns i, Hh ns i)), .val (.int (A ns i)), .own (iL (lrow ns q last i (k + 1))), .val (bestD (T last) (k + 1)), .val (.int (T q k)), .val (.int (T last k))], ?_, ?_, _, _, Fr.val _, Fr.val _, rfl⟩
      · simp [h8, h9]
      · have e9 : (if T q k + A ns i - W ns i < 0 then -(T q k + A ns i - W ns i) else T q k + A ns i - W ns i) = ab (T q k - sw ns i) := by
          unfold ab sw
          rw [show T q k - (W ns i - A ns i) = T q k + A ns i - W ns i by omega]
        have t1 : (iL (lrow ns q last i k)).length < 16777216 := by rw [iL_len, lrow_len]; omega
        have b1 : sSet 7 (eIf (eTst (DL.e2 gIs (eVar 7) (eC .none))) (eVar 9) (eOp gMin (eCons (eVar 7) (eCons (eVar 9) eNil)))) [a0, a1, a2, a3, .val (pairD (W ns i, Hh ns i)), .val (.int (A ns i)), .own (iL (lrow ns q last i k)), .val (bestD (T last) k), .val (.int (T q k)), .val (.int (T last k))] = some (.nx, [a0, a1, a2, a3, .val (pairD (W ns i, Hh ns i)), .val (.int (A ns i)), .own (iL (lrow ns q last i k)), .val (.int (pm (T last) k)), .val (.int (T q k)), .val (.int (T last k))]) := by
          cases k with
          | zero => simp [bestD, pm]
          | succ k =>
            have em : min (pm (T last) k) (T last (k + 1)) = pm (T last) (k + 1) := Int.min_comm _ _
            simp [bestD, gMin2, em, -x_gMin]
        unfold B__law_sum_2
        rw [seq_nx b1]
        have er : iL (lrow ns q last i (k + 1)) = iL (lrow ns q last i k) ++ [.int (pm (T last) k + ab (T q k - sw ns i))] := by rw [lrow_succ, iL_app]; rfl
        simp [pair0, e9, t1, er, bestD]
  rw [zip2_len, iL_len, iL_len, hl, Nat.min_self] at k2
  exact ⟨ρ', k1, k2⟩
theorem lsum_ok {ns : Nt} (h : Ok ns) (h1 : ns ≠ []) : V__law_sum [nt ns] = some (.dat (.int (lsum ns))) := by
  have hz := h.len
  have hp := ne_pos h1
  have hpl := plcL_len (ns := ns)
  have k1 : sSet 1 (eCall 1 V__law_ahead (eCons (eVar 0) eNil)) [.val (nt ns), .un, .un, .un, .un, .un, .un, .un, .un, .un] = some (.nx, [.val (nt ns), .own (iL (heads ns (ns.length + 1))), .un, .un, .un, .un, .un, .un, .un, .un]) := by simp [lahead_ok h]
  have c1 : eComp [4, 5] (eZip2 (eCons (eVar 0) (eCons (eVar 1) eNil))) (gT 2 (gsC (gN 4) (gsC (gN 5) gsN))) (pur true) B__law_sum_1 [.val (nt ns), .own (iL (heads ns (ns.length + 1))), .un, .un, .un, .un, .un, .un, .un, .un] = some (.frL (iL (clips ns)), [.val (nt ns), .val (.list (iL (heads ns (ns.length + 1)))), .un, .un, .un, .un, .un, .un, .un, .un]) := by
    rw [eComp_idx (n := ns.length) (ρ1 := [.val (nt ns), .val (.list (iL (heads ns (ns.length + 1)))), .un, .un, .un, .un, .un, .un, .un, .un]) (ρ2 := [.val (nt ns), .val (.list (iL (heads ns (ns.length + 1)))), .un, .un, .un, .un, .un, .un, .un, .un]) (items := zip2D (ns.map pairD) (iL (heads ns (ns.length + 1)))) (fun i => .tuple [pairD (W ns i, Hh ns i), .int (A ns i)]) (fun i => .int (cl ns i)) (by simp) (by rw [zip2_len, iL_len, heads_len, List.length_map]; omega) (by omega) (by simp) (fun i hi => zip2_at (by rw [List.getElem?_map, W_get (by omega)]; rfl) (heads_T (by omega))) fun i hi => ?_]
    · rw [iL_map]; simp [clips]
    · refine ⟨[.val (nt ns), .val (.list (iL (heads ns (ns.length + 1)))), .un, .un, .val (pairD (W ns i, Hh ns i)), .val (.int (A ns i)), .un, .un, .un, .un], [.val (nt ns), .val (.list (iL (heads ns (ns.length + 1)))), .un, .un, .val (pairD (W ns i, Hh ns i)), .val (.int (A ns i)), .un, .un, .un, .un], by simp, ?_, by simp⟩
      have mx : (if W ns i - A ns i > 0 then W ns i - A ns i else 0) = cl ns i := maxIf 0 _
      simp only [gt_iff_lt] at mx
      simp only [x_eFrz, x_eOp, x_eCons, x_eNil, x_eC, x_eVar]
      simp [pair0, -Int.sub_pos]
      simp only [← mx]
  have cll : (clips ns).length = ns.length := by unfold clips; simp
  have eg := gSrtSet_iL (l := 0 :: clips ns) (by rw [List.length_cons, cll]; omega)
  have t2 : (iL (clips ns)).length ≤ 16777215 := by rw [iL_len, cll]; omega
  have ei : PyData.int 0 :: iL (clips ns) = iL (0 :: clips ns) := rfl
  have k2 : sSet 2 (DL.e1 gSrtSet (DL.e2 gAdd (eLst (eCons (eC (.int 0)) eNil)) (eComp [4, 5] (eZip2 (eCons (eVar 0) (eCons (eVar 1) eNil))) (gT 2 (gsC (gN 4) (gsC (gN 5) gsN))) (pur true) B__law_sum_1))) [.val (nt ns), .own (iL (heads ns (ns.length + 1))), .un, .un, .un, .un, .un, .un, .un, .un] = some (.nx, [.val (nt ns), .val (.list (iL (heads ns (ns.length + 1)))), .own (iL (plcL ns)), .un, .un, .un, .un, .un, .un, .un]) := by
    simp [c1, t2, Nat.add_comm, ei, eg, plcL]
  have er := repOk_of (n := 1) (k := ((plcL ns).length : Int)) (by omega) (by omega) (by simp; omega)
  have ez : (List.replicate (plcL ns).length [PyData.int 0]).flatten = iL (lpr ns 0) := zeros _
  have lpl : (iL (plcL ns)).length = (plcL ns).length := iL_len _
  have k3 : sSet 3 (DL.e2 gMul (eLst (eCons (eC (.int 0)) eNil)) (eOp gLen (eCons (eVar 2) eNil))) [.val (nt ns), .val (.list (iL (heads ns (ns.length + 1)))), .own (iL (plcL ns)), .un, .un, .un, .un, .un, .un, .un] = some (.nx, [.val (nt ns), .val (.list (iL (heads ns (ns.length + 1)))), .own (iL (plcL ns)), .own (iL (lpr ns 0)), .un, .un, .un, .un, .un, .un]) := by
    simp [lpl, er, ez, -List.flatten_replicate_singleton]
  obtain ⟨ρ', f1, a2, a3, s4, s5, s6, s7, s8, s9, g2, g3, _, _, _, _, _, _, rfl⟩ := forD_all (g := gT 2 (gsC (gN 4) (gsC (gN 5) gsN))) (fb := B__law_sum_3) (items := zip2D (ns.map pairD) (iL (heads ns (ns.length + 1)))) (ρ := [.val (nt ns), .val (.list (iL (heads ns (ns.length + 1)))), .own (iL (plcL ns)), .own (iL (lpr ns 0)), .un, .un, .un, .un, .un, .un])
    (fun i ρ => ∃ a2 a3 s4 s5 s6 s7 s8 s9, Lk a2 (iL (plcL ns)) ∧ Lk a3 (iL (lpr ns i)) ∧ Fr s4 ∧ Fr s5 ∧ Fr s6 ∧ Fr s7 ∧ Fr s8 ∧ Fr s9 ∧ ρ = [.val (nt ns), .val (.list (iL (heads ns (ns.length + 1)))), a2, a3, s4, s5, s6, s7, s8, s9]) ⟨_, _, .un, .un, .un, .un, .un, .un, .inl rfl, .inl rfl, Fr.un, Fr.un, Fr.un, Fr.un, Fr.un, Fr.un, rfl⟩ fun i d ρ e ⟨a2, a3, s4, s5, s6, s7, s8, s9, h2, h3, h4, h5, h6, h7, h8, h9, eρ⟩ => by
      subst eρ
      have hi : i < ns.length := by
        have := (List.getElem?_eq_some_iff.mp e).1
        rw [zip2_len, iL_len, heads_len, List.length_map] at this
        omega
      rw [zip2_at (by rw [List.getElem?_map, W_get hi]; rfl) (heads_T (by omega))] at e
      cases e
      obtain ⟨ρ1, f1, t8, t9, f8, f9, rfl⟩ := lrow_ok (ns := ns) (i := i) (.val (nt ns)) (.val (.list (iL (heads ns (ns.length + 1))))) (.val (.list (iL (plcL ns)))) (.val (.list (iL (lpr ns i)))) (plcL ns) (lpr ns i) (lpr_len ns i) (by omega) s8 s9 h8 h9
      rw [lrow_lpr] at f1
      have ezz := zipLk (r := [.val (nt ns), .val (.list (iL (heads ns (ns.length + 1)))), a2, a3, .val (pairD (W ns i, Hh ns i)), .val (.int (A ns i)), .own [], .val .none, s8, s9]) (i := 2) (j := 3) (x := iL (plcL ns)) (y := iL (lpr ns i)) rfl rfl (by decide) h2 h3
      have b1 : sPar 6 7 (eCons (eLst eNil) (eCons (eC .none) eNil)) [.val (nt ns), .val (.list (iL (heads ns (ns.length + 1)))), a2, a3, .val (pairD (W ns i, Hh ns i)), .val (.int (A ns i)), s6, s7, s8, s9] = some (.nx, [.val (nt ns), .val (.list (iL (heads ns (ns.length + 1)))), a2, a3, .val (pairD (W ns i, Hh ns i)), .val (.int (A ns i)), .own [], .val .none, s8, s9]) := by simp [h6, h7]
      have b2 : sFor (eZip2 (eCons (eVar 2) (eCons (eVar 3) eNil))) (gT 2 (gsC (gN 8) (gsC (gN 9) gsN))) B__law_sum_2 [.val (nt ns), .val (.list (iL (heads ns (ns.length + 1)))), a2, a3, .val (pairD (W ns i, Hh ns i)), .val (.int (A ns i)), .own [], .val .none, s8, s9] = some (.nx, [.val (nt ns), .val (.list (iL (heads ns (ns.length + 1)))), .val (.list (iL (plcL ns))), .val (.list (iL (lpr ns i))), .val (pairD (W ns i, Hh ns i)), .val (.int (A ns i)), .own (iL (lpr ns (i + 1))), .val (bestD (T (lpr ns i)) (plcL ns).length), t8, t9]) := by
        rw [x_sFor, ezz]
        exact f1
      refine ⟨[.val (nt ns), .val (.list (iL (heads ns (ns.length + 1)))), a2, a3, .val (pairD (W ns i, Hh ns i)), .val (.int (A ns i)), s6, s7, s8, s9], [.val (nt ns), .val (.list (iL (heads ns (ns.length + 1)))), .val (.list (iL (plcL ns))), .val (.list (iL (lpr ns (i + 1)))), .val (pairD (W ns i, Hh ns i)), .val (.int (A ns i)), .val (.list (iL (lpr ns (i + 1)))), .val (bestD (T (lpr ns i)) (plcL ns).length), t8, t9], by simp [h4, h5], ?_, _, _, _, _, _, _, t8, t9, .inr rfl, .inr rfl, Fr.val _, Fr.val _, Fr.val _, Fr.val _, f8, f9, rfl⟩
      unfold B__law_sum_3
      rw [seq_nx b1, seq_nx b2]
      simp
  have hlen : (zip2D (ns.map pairD) (iL (heads ns (ns.length + 1)))).length = ns.length := by rw [zip2_len, iL_len, heads_len, List.length_map]; omega
  rw [hlen] at g3
  have k4 : sFor (eZip2 (eCons (eVar 0) (eCons (eVar 1) eNil))) (gT 2 (gsC (gN 4) (gsC (gN 5) gsN))) B__law_sum_3 [.val (nt ns), .val (.list (iL (heads ns (ns.length + 1)))), .own (iL (plcL ns)), .own (iL (lpr ns 0)), .un, .un, .un, .un, .un, .un] = some (.nx, [.val (nt ns), .val (.list (iL (heads ns (ns.length + 1)))), a2, a3, s4, s5, s6, s7, s8, s9]) := by
    simp [f1]
  have hm : gMin [.list (iL (lpr ns ns.length))] = some (.dat (.int (lsum ns))) := by
    have hs := sums_same h1
    have hne : lpr ns ns.length ≠ [] := by
      intro e0
      have h5 := congrArg List.length e0
      rw [lpr_len, List.length_nil] at h5
      have : (0 : Int) ∈ plcL ns := by unfold plcL; rw [setI_mem]; exact List.mem_cons_self ..
      have := List.length_pos_of_mem this
      omega
    unfold gMin
    simp only
    rw [intsD_iL]
    rw [← hs]
    show (match some (lpr ns ns.length) with | some (n :: ns) => _ | _ => _) = some (Hd.dat (PyData.int (minI (lpr ns ns.length))))
    cases he : lpr ns ns.length with
    | nil => exact absurd he hne
    | cons a r => rfl
  unfold V__law_sum
  rw [x_runD]
  show rsD (B__law_sum [.val (nt ns), .un, .un, .un, .un, .un, .un, .un, .un, .un]) = _
  unfold B__law_sum
  rw [seq_nx k1, seq_nx k2, seq_nx k3, seq_nx k4]
  rcases g3 with rfl | rfl <;> simp [hm]
end K07
set_option Elab.async false
set_option linter.all false
set_option maxRecDepth 100000
namespace K07
open PySem PySem.Spec L2 DL
structure Hand (cells : List Int) (a b c d : Int) : Prop where
  nn : ∀ x ∈ cells, 0 ≤ x
  a0 : 0 ≤ a
  b0 : 0 ≤ b
def hnd (cells : List Int) (a b c d : Int) : List PD := [.list (iL cells), .int a, .int b, .int c, .int d]
def HandOk (cs : List PD) : Prop := ∃ cells a b c d, Hand cells a b c d ∧ cs = hnd cells a b c d
theorem h0 (x0 x1 x2 x3 x4 : PD) : atI [x0, x1, x2, x3, x4] 0 = some x0 := rfl
theorem h1 (x0 x1 x2 x3 x4 : PD) : atI [x0, x1, x2, x3, x4] 1 = some x1 := rfl
theorem h2 (x0 x1 x2 x3 x4 : PD) : atI [x0, x1, x2, x3, x4] 2 = some x2 := rfl
theorem h3 (x0 x1 x2 x3 x4 : PD) : atI [x0, x1, x2, x3, x4] 3 = some x3 := rfl
theorem h4 (x0 x1 x2 x3 x4 : PD) : atI [x0, x1, x2, x3, x4] 4 = some x4 := rfl
theorem i1 : ixN 5 1 = some 1 := rfl
theorem i2 : ixN 5 2 = some 2 := rfl
theorem i3 : ixN 5 3 = some 3 := rfl
theorem i4 : ixN 5 4 = some 4 := rfl
theorem lhand_ok (ns : List Int) (hl : ns.length ≤ 63) : ∃ cs, V__law_hand ns = some (.frL cs) ∧ HandOk cs := by
  have hk : ∀ i, i < (ns.take 61).length → ((ns.take 61).map PyData.int)[i]? = some (.int (T (ns.take 61) i)) := fun i hi => iL_get hi
  have htl : (ns.take 61).length ≤ 61 := by rw [List.length_take]; omega
  have c1 : eComp [2] (eScr 0 61) (gN 2) (pur true) B__law_hand_1 [.scr ns, .un, .un] = some (.frL (iL ((List.range (ns.take 61).length).map fun i => ab (T (ns.take 61) i))), [.scr ns, .un, .un]) := by
    rw [eComp_idx (n := (ns.take 61).length) (ρ1 := [.scr ns, .un, .un]) (ρ2 := [.scr ns, .un, .un]) (items := (ns.take 61).map PyData.int) (fun i => .int (T (ns.take 61) i)) (fun i => .int (ab (T (ns.take 61) i))) rfl (List.length_map ..) (by omega) (by simp) hk fun i hi => ⟨[.scr ns, .un, .val (.int (T (ns.take 61) i))], [.scr ns, .un, .val (.int (T (ns.take 61) i))], by simp, by simp [ab], by simp⟩]
    rw [iL_map]; simp
  have k1 : sSet 1 (eComp [2] (eScr 0 61) (gN 2) (pur true) B__law_hand_1) [.scr ns, .un, .un] = some (.nx, [.scr ns, .own (iL ((List.range (ns.take 61).length).map fun i => ab (T (ns.take 61) i))), .un]) := by
    rw [x_sSet, c1]; simp
  generalize hce : ((List.range (ns.take 61).length).map fun i => ab (T (ns.take 61) i)) = cells at k1
  have hcell : ∀ x ∈ cells, 0 ≤ x := fun x hx => by
    rw [← hce] at hx
    obtain ⟨i, _, rfl⟩ := List.mem_map.mp hx
    exact ab_nn _
  refine ⟨hnd cells 0 0 (90445 + 17 * (cells.length : Int)) 0, ?_, cells, 0, 0, _, 0, ⟨hcell, by omega, by omega⟩, rfl⟩
  have k2 : B__law_hand [.scr ns, .un, .un] = some (.rt (.frL (hnd cells 0 0 (90445 + 17 * (cells.length : Int)) 0)), [.scr ns, .val (.list (iL cells)), .un]) := by
    unfold B__law_hand
    rw [seq_nx k1]
    simp [iL_len, hnd]
  unfold V__law_hand runS
  rw [show (SV.scr ns :: List.replicate (3 - 1) SV.un) = [.scr ns, .un, .un] from rfl, k2]
theorem draw_ok {cs : List PD} (h : HandOk cs) {m : Int} (hm : 0 < m) (hm2 : m ≤ 1000000) : ∃ r cs', V__law_draw cs [.int m] = some (.dat (.int r), cs') ∧ HandOk cs' ∧ 0 ≤ r ∧ r < m := by
  obtain ⟨cells, a, b, c, d, hh, rfl⟩ := h
  have fin : ∀ {r : Int} {cs' : List PD} {ρ : En}, B__law_draw [.bor (hnd cells a b c d), .val (.int m), .un, .un, .un] = some (.rt (.dat (.int r)), .bor cs' :: ρ) → V__law_draw (hnd cells a b c d) [.int m] = some (.dat (.int r), cs') := fun {r cs' ρ} e => by
    unfold V__law_draw runB
    rw [show (SV.bor (hnd cells a b c d) :: ([PyData.int m].map SV.val ++ List.replicate (5 - 1 - [PyData.int m].length) SV.un)) = [.bor (hnd cells a b c d), .val (.int m), .un, .un, .un] from rfl, e]
    rfl
  -- the first if
  have step1 : ∃ a' b' c' s2, 0 ≤ a' ∧ 0 ≤ b' ∧ Fr s2 ∧ sIf (tAndD (eTst (DL.e2 gEq (DL.e2 gIx (eVar 0) (eC (.int 2))) (eC (.int 0)))) (eTst (DL.e2 gLt (DL.e2 gIx (eVar 0) (eC (.int 1))) (eOp gLen (eCons (DL.e2 gIx (eVar 0) (eC (.int 0))) eNil))))) (sSeq (sSet 2 (DL.e2 gIx (DL.e2 gIx (eVar 0) (eC (.int 0))) (DL.e2 gIx (eVar 0) (eC (.int 1)))))
    (sSeq (sSetIx 0 (eC (.int 1)) (DL.e2 gAdd (DL.e2 gIx (eVar 0) (eC (.int 1))) (eC (.int 1))))
    (sSeq (sSetIx 0 (eC (.int 3)) (DL.e2 gMod (eOp gInt (eCons (DL.e2 gAdd (DL.e2 gAdd (DL.e2 gMul (DL.e2 gIx (eVar 0) (eC (.int 3))) (eC (.int 69621))) (DL.e2 gMul (eVar 2) (eC (.int 40692)))) (eC (.int 73))) eNil)) (eC (.int 2147483629))))
    (sIf (eTst (DL.e2 gGe (eVar 2) (DL.e2 gPow (eC (.int 10)) (eC (.int 18))))) (sSetIx 0 (eC (.int 2)) (eVar 2)) sNx)))) sNx [.bor (hnd cells a b c d), .val (.int m), .un, .un, .un] = some (.nx, [.bor (hnd cells a' b' c' d), .val (.int m), s2, .un, .un]) := by
    by_cases hc : b = 0 ∧ a < (cells.length : Int)
    · obtain ⟨rfl, hac⟩ := hc
      have ha : a = ((a.toNat : Nat) : Int) := by have := hh.a0; omega
      have g := iL_at (t := cells) (i := a.toNat) (by have := hh.a0; omega)
      rw [← ha] at g
      have hx : 0 ≤ T cells a.toNat := hh.nn _ (T_mem (by have := hh.a0; omega))
      generalize T cells a.toNat = x at g hx
      by_cases hb : (1000000000000000000 : Int) ≤ x
      · refine ⟨a + 1, x, (c * 69621 + x * 40692 + 73) % 2147483629, .val (.int x), by have := hh.a0; omega, hx, Fr.val _, ?_⟩
        simp [hnd, h0, h1, h2, h3, i1, i2, i3, iL_len, hac, g, hb]
      · refine ⟨a + 1, 0, (c * 69621 + x * 40692 + 73) % 2147483629, .val (.int x), by have := hh.a0; omega, Int.le_refl 0, Fr.val _, ?_⟩
        simp [hnd, h0, h1, h2, h3, i1, i2, i3, iL_len, hac, g, hb]
    · refine ⟨a, b, c, .un, hh.a0, hh.b0, Fr.un, ?_⟩
      by_cases hb : b = 0
      · have : ¬ (a < (cells.length : Int)) := fun z => hc ⟨hb, z⟩
        simp [hnd, h0, h1, h2, iL_len, hb, this]
      · simp [hnd, h2, hb]
  obtain ⟨a', b', c', s2, ha', hb', fs2, k1⟩ := step1
  by_cases hb : 0 < b'
  · have k2 : sIf (eTst (DL.e2 gGt (DL.e2 gIx (eVar 0) (eC (.int 2))) (eC (.int 0)))) (sSeq (sSet 3 (DL.e2 gMod (eOp gInt (eCons (DL.e2 gIx (eVar 0) (eC (.int 2))) eNil)) (eVar 1)))
    (sSeq (sSetIx 0 (eC (.int 2)) (DL.e2 gDiv (DL.e2 gIx (eVar 0) (eC (.int 2))) (eVar 1)))
    (sRet (eVar 3)))) sNx [.bor (hnd cells a' b' c' d), .val (.int m), s2, .un, .un] = some (.rt (.dat (.int (b' % m))), [.bor (hnd cells a' (b' / m) c' d), .val (.int m), s2, .val (.int (b' % m)), .un]) := by
      have hm3 : m < 18446744073709551616 := by omega
      simp [hnd, h2, i2, hb, hm, hm3]
    refine ⟨b' % m, hnd cells a' (b' / m) c' d, fin (ρ := [.val (.int m), s2, .val (.int (b' % m)), .un]) ?_, ⟨cells, a', b' / m, c', d, ⟨hh.nn, ha', Int.ediv_nonneg hb' (by omega)⟩, rfl⟩, Int.emod_nonneg _ (by omega), Int.emod_lt_of_pos _ hm⟩
    unfold B__law_draw
    rw [seq_nx k1, seq_rt k2]
  · have k2 : sIf (eTst (DL.e2 gGt (DL.e2 gIx (eVar 0) (eC (.int 2))) (eC (.int 0)))) (sSeq (sSet 3 (DL.e2 gMod (eOp gInt (eCons (DL.e2 gIx (eVar 0) (eC (.int 2))) eNil)) (eVar 1)))
    (sSeq (sSetIx 0 (eC (.int 2)) (DL.e2 gDiv (DL.e2 gIx (eVar 0) (eC (.int 2))) (eVar 1)))
    (sRet (eVar 3)))) sNx [.bor (hnd cells a' b' c' d), .val (.int m), s2, .un, .un] = some (.nx, [.bor (hnd cells a' b' c' d), .val (.int m), s2, .un, .un]) := by
      simp [hnd, h2, hb]
    have k3 : sSetIx 0 (eC (.int 4)) (DL.e2 gAdd (DL.e2 gIx (eVar 0) (eC (.int 4))) (eC (.int 1))) [.bor (hnd cells a' b' c' d), .val (.int m), s2, .un, .un] = some (.nx, [.bor (hnd cells a' b' c' (d + 1)), .val (.int m), s2, .un, .un]) := by
      simp [hnd, h4, i4]
    have k4 : sSet 4 (DL.e2 gMod (eOp gInt (eCons (DL.e2 gMul (eOp gInt (eCons (DL.e2 gAdd (DL.e2 gIx (eVar 0) (eC (.int 3))) (DL.e2 gMul (eC (.int 7919)) (DL.e2 gIx (eVar 0) (eC (.int 4))))) eNil)) (eC (.int 48271))) eNil)) (eC (.int 2147483647))) [.bor (hnd cells a' b' c' (d + 1)), .val (.int m), s2, .un, .un] = some (.nx, [.bor (hnd cells a' b' c' (d + 1)), .val (.int m), s2, .un, .val (.int ((c' + 7919 * (d + 1)) * 48271 % 2147483647))]) := by
      simp [hnd, h3, h4]
    have b1 := Int.emod_nonneg ((c' + 7919 * (d + 1)) * 48271) (b := 2147483647) (by decide)
    have b2 := Int.emod_lt_of_pos ((c' + 7919 * (d + 1)) * 48271) (b := 2147483647) (by decide)
    generalize (c' + 7919 * (d + 1)) * 48271 % 2147483647 = n1 at k4 b1 b2
    have m1 : mulOk n1 (n1 / 1009 + 69621) = true := (x_mulOk _ _).mpr (.inl ⟨by omega, by omega⟩)
    have k5 : sSet 4 (DL.e2 gMod (eOp gInt (eCons (DL.e2 gMul (eVar 4) (DL.e2 gAdd (DL.e2 gDiv (eVar 4) (eC (.int 1009))) (eC (.int 69621)))) eNil)) (eC (.int 2147483647))) [.bor (hnd cells a' b' c' (d + 1)), .val (.int m), s2, .un, .val (.int n1)] = some (.nx, [.bor (hnd cells a' b' c' (d + 1)), .val (.int m), s2, .un, .val (.int (n1 * (n1 / 1009 + 69621) % 2147483647))]) := by
      simp [m1, -x_mulOk]
    have b3 := Int.emod_nonneg (n1 * (n1 / 1009 + 69621)) (b := 2147483647) (by decide)
    have b4 := Int.emod_lt_of_pos (n1 * (n1 / 1009 + 69621)) (b := 2147483647) (by decide)
    generalize n1 * (n1 / 1009 + 69621) % 2147483647 = n2 at k5 b3 b4
    have m2 : mulOk n2 (n2 / 2003 + 40014) = true := (x_mulOk _ _).mpr (.inl ⟨by omega, by omega⟩)
    have k6 : sSet 4 (DL.e2 gMod (eOp gInt (eCons (DL.e2 gMul (eVar 4) (DL.e2 gAdd (DL.e2 gDiv (eVar 4) (eC (.int 2003))) (eC (.int 40014)))) eNil)) (eC (.int 2147483563))) [.bor (hnd cells a' b' c' (d + 1)), .val (.int m), s2, .un, .val (.int n2)] = some (.nx, [.bor (hnd cells a' b' c' (d + 1)), .val (.int m), s2, .un, .val (.int (n2 * (n2 / 2003 + 40014) % 2147483563))]) := by
      simp [m2, -x_mulOk]
    generalize n2 * (n2 / 2003 + 40014) % 2147483563 = n3 at k6
    have k7 : sRet (DL.e2 gMod (eOp gInt (eCons (DL.e2 gDiv (eVar 4) (eC (.int 16))) eNil)) (eVar 1)) [.bor (hnd cells a' b' c' (d + 1)), .val (.int m), s2, .un, .val (.int n3)] = some (.rt (.dat (.int (n3 / 16 % m))), [.bor (hnd cells a' b' c' (d + 1)), .val (.int m), s2, .un, .val (.int n3)]) := by
      simp [hm]
    refine ⟨n3 / 16 % m, hnd cells a' b' c' (d + 1), fin (ρ := [.val (.int m), s2, .un, .val (.int n3)]) ?_, ⟨cells, a', b', c', d + 1, ⟨hh.nn, ha', hb'⟩, rfl⟩, Int.emod_nonneg _ (by omega), Int.emod_lt_of_pos _ hm⟩
    unfold B__law_draw
    rw [seq_nx k1, seq_nx k2, seq_nx k3, seq_nx k4, seq_nx k5, seq_nx k6, k7]
end K07
set_option Elab.async false
set_option linter.all false
set_option maxRecDepth 100000
namespace K07
open PySem PySem.Spec L2 DL
theorem any_ok {cs : List PD} (h : HandOk cs) {ds : List PD} (hl : 1 ≤ ds.length) (hl2 : ds.length ≤ 1000) : ∃ d cs', V__law_any cs [.list ds] = some (.dat d, cs') ∧ HandOk cs' ∧ d ∈ ds := by
  obtain ⟨r, cs', e, h', r0, r1⟩ := draw_ok h (m := (ds.length : Int)) (by omega) (by omega)
  have hr : r = ((r.toNat : Nat) : Int) := by omega
  have hlt : r.toNat < ds.length := by omega
  have g : atI ds r = some ds[r.toNat] := by
    have := atI_of (l := ds) (i := r.toNat) hlt
    rwa [← hr] at this
  refine ⟨ds[r.toNat], cs', ?_, h', List.getElem_mem hlt⟩
  have k : B__law_any [.bor cs, .val (.list ds)] = some (.rt (.dat ds[r.toNat]), [.bor cs', .val (.list ds)]) := by
    simp [e, g]
  unfold V__law_any runB
  rw [show (SV.bor cs :: ([PyData.list ds].map SV.val ++ List.replicate (2 - 1 - [PyData.list ds].length) SV.un)) = [.bor cs, .val (.list ds)] from rfl, k]
  rfl
def okP (p : Int × Int) : Prop := 0 ≤ p.1 ∧ p.1 ≤ 1000 ∧ 1 ≤ p.2 ∧ p.2 ≤ 50
theorem pairs_of : ∀ {out : List PD}, (∀ x ∈ out, ∃ p : Int × Int, x = pairD p ∧ okP p) → ∃ ns : Nt, out = ns.map pairD ∧ ∀ p ∈ ns, okP p
  | [], _ => ⟨[], rfl, fun p hp => nomatch hp⟩
  | x :: out, h => by
    obtain ⟨p, rfl, hp⟩ := h x (List.mem_cons_self ..)
    obtain ⟨ns, rfl, hn⟩ := pairs_of (out := out) fun y hy => h y (List.mem_cons_of_mem _ hy)
    refine ⟨p :: ns, rfl, fun q hq => ?_⟩
    rcases List.mem_cons.mp hq with rfl | hq
    · exact hp
    · exact hn q hq
theorem gSrt_pairs {ns : Nt} (h1 : ns ≠ []) : gSrt [.list (ns.map pairD)] = some (.frL ((srtP ns).map pairD)) := by
  have e : gSrt [.list (ns.map pairD)] = gSorted [.list (ns.map pairD)] := rfl
  rw [e]
  have hi : intsD (ns.map pairD) = none := by
    cases ns with
    | nil => exact absurd rfl h1
    | cons p r => rfl
  unfold gSorted
  simp only [hi, pairsD_map]
  rfl
theorem notes_ok {cs : List PD} (h : HandOk cs) : ∃ (ns : Nt) (cs' : List PD), V__law_notes cs [] = some (.dat (nt ns), cs') ∧ HandOk cs' ∧ Ok ns ∧ ns ≠ [] := by
  obtain ⟨near, cs1, en, hh1, mn⟩ := any_ok h (ds := [.int 20, .int 200, .int 1001]) (by simp) (by simp)
  obtain ⟨great, cs2, eg, hh2, mg⟩ := any_ok hh1 (ds := [.int 2, .int 10, .int 50]) (by simp) (by simp)
  obtain ⟨many, cs3, em, hh3, mm⟩ := any_ok hh2 (ds := [.int 30, .int 30, .int 15, .int 1]) (by simp) (by simp)
  obtain ⟨nr, rfl, n0, n1⟩ : ∃ i : Int, near = .int i ∧ 0 < i ∧ i ≤ 1001 := by
    simp at mn
    rcases mn with rfl | rfl | rfl <;> exact ⟨_, rfl, by omega, by omega⟩
  obtain ⟨gr, rfl, g0, g1⟩ : ∃ i : Int, great = .int i ∧ 0 < i ∧ i ≤ 50 := by
    simp at mg
    rcases mg with rfl | rfl | rfl <;> exact ⟨_, rfl, by omega, by omega⟩
  obtain ⟨n, rfl, m0, m1⟩ : ∃ i : Nat, many = .int (i : Int) ∧ 1 ≤ i ∧ i ≤ 30 := by
    simp at mm
    rcases mm with rfl | rfl | rfl
    · exact ⟨30, rfl, by omega, by omega⟩
    · exact ⟨15, rfl, by omega, by omega⟩
    · exact ⟨1, rfl, by omega, by omega⟩
  have k1 : sAsg (eTup (eCons (eCallB 1 V__law_any 0 (eCons (eLst (eCons (eC (.int 20)) (eCons (eC (.int 200)) (eCons (eC (.int 1001)) eNil)))) eNil)) (eCons (eCallB 1 V__law_any 0 (eCons (eLst (eCons (eC (.int 2)) (eCons (eC (.int 10)) (eCons (eC (.int 50)) eNil)))) eNil)) eNil))) (gT 2 (gsC (gN 1) (gsC (gN 2) gsN))) [.bor cs, .un, .un, .un, .un] = some (.nx, [.bor cs2, .val (.int nr), .val (.int gr), .un, .un]) := by
    simp [en, eg]
  have hs := smallI_nat (n := n) (by omega)
  have er : eRng1 (eCallB 1 V__law_any 0 (eCons (eLst (eCons (eC (.int 30)) (eCons (eC (.int 30)) (eCons (eC (.int 15)) (eCons (eC (.int 1)) eNil))))) eNil)) [.bor cs2, .val (.int nr), .val (.int gr), .un, .un] = some (rng 0 n, [.bor cs3, .val (.int nr), .val (.int gr), .un, .un]) := by
    simp [em, hs]
  obtain ⟨out, ρ', c1, ⟨cs4, hh4, rfl⟩, cl, cf⟩ := comp_mapI (ws := [4]) (g := gN 4) (te := B__law_notes_1) (items := rng 0 n) (acc := []) (ρ := [.bor cs3, .val (.int nr), .val (.int gr), .un, .un])
    (fun _ ρ => ∃ cs, HandOk cs ∧ ρ = [.bor cs, .val (.int nr), .val (.int gr), .un, .un]) (fun _ _ x => ∃ p : Int × Int, x = pairD p ∧ okP p) ⟨cs3, hh3, rfl⟩ fun i d ρ e ⟨cs, hh, eρ⟩ => by
      subst eρ
      obtain ⟨r, cs', e1, hh', r0, r1⟩ := draw_ok hh (m := nr) n0 (by omega)
      obtain ⟨r2, cs'', e2, hh'', r3, r4⟩ := draw_ok hh' (m := gr) g0 (by omega)
      refine ⟨[.bor cs, .val (.int nr), .val (.int gr), .un, .val d], [.bor cs'', .val (.int nr), .val (.int gr), .un, .val d], [.bor cs'', .val (.int nr), .val (.int gr), .un, .un], pairD (r, 1 + r2), by simp, ?_, by simp, ⟨(r, 1 + r2), rfl, by unfold okP; simp only; omega⟩, cs'', hh'', rfl⟩
      simp [e1, e2, pairD]
  rw [rng_len] at cl
  obtain ⟨ns, rfl, hn⟩ := pairs_of (out := out) fun x hx => by
    obtain ⟨i, hi, ei⟩ := List.getElem_of_mem hx
    have hin : i < n := by omega
    exact cf i _ x (rng_at hin) (by rw [List.getElem?_eq_getElem hi, ei])
  have nl : ns.length = n := by rw [List.length_map] at cl; exact cl
  have hne : ns ≠ [] := fun e => by rw [e] at nl; simp at nl; omega
  have c2 : eComp [4] (eRng1 (eCallB 1 V__law_any 0 (eCons (eLst (eCons (eC (.int 30)) (eCons (eC (.int 30)) (eCons (eC (.int 15)) (eCons (eC (.int 1)) eNil))))) eNil))) (gN 4) (pur true) B__law_notes_1 [.bor cs2, .val (.int nr), .val (.int gr), .un, .un] = some (.frL (ns.map pairD), [.bor cs4, .val (.int nr), .val (.int gr), .un, .un]) := by
    rw [eComp_of er (by rw [rng_len]; omega) (ρ2 := [.bor cs3, .val (.int nr), .val (.int gr), .un, .un]) (by simp) c1]
    simp
  have k2 : sSet 3 (eComp [4] (eRng1 (eCallB 1 V__law_any 0 (eCons (eLst (eCons (eC (.int 30)) (eCons (eC (.int 30)) (eCons (eC (.int 15)) (eCons (eC (.int 1)) eNil))))) eNil))) (gN 4) (pur true) B__law_notes_1) [.bor cs2, .val (.int nr), .val (.int gr), .un, .un] = some (.nx, [.bor cs4, .val (.int nr), .val (.int gr), .own (ns.map pairD), .un]) := by
    rw [x_sSet, c2]; simp
  obtain ⟨r, cs5, e5, hh5, r0, r1⟩ := draw_ok hh4 (m := 3) (by omega) (by omega)
  have gs := gSrt_pairs hne
  have okn : Ok ns := ⟨by omega, hn⟩
  have fin : ∀ {ms : Nt}, sRet (eIf (eTst (DL.e2 gGt (eCallB 1 V__law_draw 0 (eCons (eC (.int 3)) eNil)) (eC (.int 0)))) (eOp gTuple (eCons (eOp gSrt (eCons (eVar 3) eNil)) eNil)) (eOp gTuple (eCons (eVar 3) eNil))) [.bor cs4, .val (.int nr), .val (.int gr), .own (ns.map pairD), .un] = some (.rt (.dat (nt ms)), [.bor cs5, .val (.int nr), .val (.int gr), .own (ns.map pairD), .un]) → V__law_notes cs [] = some (.dat (nt ms), cs5) := fun {ms} k3 => by
    have k : B__law_notes [.bor cs, .un, .un, .un, .un] = some (.rt (.dat (nt ms)), [.bor cs5, .val (.int nr), .val (.int gr), .own (ns.map pairD), .un]) := by
      unfold B__law_notes
      rw [seq_nx k1, seq_nx k2, k3]
    unfold V__law_notes runB
    rw [show (SV.bor cs :: (([] : List PD).map SV.val ++ List.replicate (5 - 1 - ([] : List PD).length) SV.un)) = [.bor cs, .un, .un, .un, .un] from rfl, k]
    rfl
  by_cases hr : 0 < r
  · refine ⟨srtP ns, cs5, fin ?_, hh5, ⟨by rw [(srtP_perm ns).length_eq]; omega, fun p hp => hn p ((srtP_perm ns).mem_iff.mp hp)⟩, fun e => ?_⟩
    · simp [e5, hr, gs, nt]
    · have := (srtP_perm ns).length_eq
      rw [e] at this
      simp at this
      omega
  · exact ⟨ns, cs5, fin (by simp [e5, hr, nt]), hh5, okn, hne⟩
end K07
set_option Elab.async false
set_option linter.all false
set_option maxRecDepth 100000
namespace K07
open PySem PySem.Spec L2 DL
/-! ### what is shown fits -/
def Sm (i : Int) : Prop := i.natAbs < 10 ^ 12
theorem sm_log {i : Int} (h : Sm i) : i.natAbs.log2 < 40 := PySem.Flt.log2_lt_of (by decide) (Nat.lt_of_lt_of_le h (by decide))
theorem sm_short {i : Int} (h : Sm i) : PyData.leavesShort 13 (.int i) = true := by
  simp only [PyData.leavesShort, PyData.shown]
  refine decide_eq_true ?_
  show (PySem.Str.ofString (toString i)).length ≤ 13
  rw [PySem.ofString_length]
  exact PySem.int_text_length_le10 (k := 12) (by decide) h
theorem sm_shows {i : Int} (h : Sm i) : PyData.showable (.int i) = true := by
  simp only [PyData.showable]
  exact decide_eq_true (by have := sm_log h; omega)
theorem sm_weight {i : Int} (h : Sm i) : PyData.weight (.int i) ≤ 40 := by
  simp only [PyData.weight]
  have := sm_log h
  split <;> omega
theorem iL_all : ∀ {l : List Int}, (∀ i ∈ l, Sm i) → PyData.leavesShortAll 13 (iL l) = true ∧ PyData.showableAll (iL l) = true ∧ PyData.weightAll (iL l) ≤ 41 * l.length ∧ PyData.hasDictAll (iL l) = false ∧ PyData.depthAll (iL l) = 0
  | [], _ => by
    refine ⟨rfl, rfl, Nat.le_refl 0, rfl, rfl⟩
  | i :: l, h => by
    obtain ⟨a, b, c, d, e⟩ := iL_all (l := l) fun j hj => h j (List.mem_cons_of_mem _ hj)
    have hi := h i (List.mem_cons_self ..)
    have w := sm_weight hi
    have el : iL (i :: l) = .int i :: iL l := rfl
    rw [el]
    refine ⟨by simp only [PyData.leavesShortAll, sm_short hi, a]; rfl, by simp only [PyData.showableAll, sm_shows hi, b]; rfl, ?_, by simp only [PyData.hasDictAll, PyData.hasDict, d]; rfl, by simp only [PyData.depthAll, PyData.depth, e]; rfl⟩
    simp only [PyData.weightAll, List.length_cons]
    omega
theorem repr3 {a b : Int} {t : List Int} (ha : Sm a) (hb : Sm b) (ht : ∀ i ∈ t, Sm i) (hl : t.length ≤ 1000) : reprOk (.list [.int a, tp t, .int b]) = true := by
  obtain ⟨h1, h2, h3, h4, h5⟩ := iL_all ht
  have ls : PyData.leavesShort 13 (.list [.int a, tp t, .int b]) = true := by
    simp only [PyData.leavesShort, PyData.leavesShortAll, tp, h1]
    have e1 := sm_short ha
    have e2 := sm_short hb
    simp only [PyData.leavesShort] at e1 e2
    rw [e1, e2]; rfl
  have wt : PyData.weight (.list [.int a, tp t, .int b]) ≤ 2 ^ 20 := by
    have := sm_weight ha
    have := sm_weight hb
    simp only [PyData.weight, PyData.weightAll, tp] at *
    omega
  have sh : PyData.showable (.list [.int a, tp t, .int b]) = true := by
    simp only [PyData.showable, PyData.showableAll, tp, h2, Bool.and_true]
    have e1 := sm_shows ha
    have e2 := sm_shows hb
    simp only [PyData.showable] at e1 e2
    rw [e1, e2]; rfl
  have hd : PyData.hasDict (.list [.int a, tp t, .int b]) = false := by
    simp only [PyData.hasDict, PyData.hasDictAll, tp, h4]; rfl
  have dp : PyData.depth (.list [.int a, tp t, .int b]) ≤ 60 := by
    simp only [PyData.depth, PyData.depthAll, tp, h5]; decide
  have ft := PyData.shown_fits (B := 13) (by decide) (by decide) ls wt
  unfold reprOk
  rw [sh, hd, decide_eq_true dp]
  unfold fitsLine
  rw [decide_eq_true ft]; rfl
theorem reprB (b : Bool) : reprOk (.bool b) = true := by
  have ft := PyData.shown_fits (B := 13) (d := .bool b) (by decide) (by decide) (by cases b <;> rfl) (by cases b <;> decide)
  unfold reprOk
  have dp : PyData.depth (.bool b) ≤ 60 := by cases b <;> decide
  rw [decide_eq_true dp]
  unfold fitsLine
  rw [decide_eq_true ft]
  cases b <;> rfl
theorem lawis_ok {d : PD} (h : reprOk d = true) : V__law_is [d, d] = some (.dat (.bool true)) := by
  have g : gRepr [d] = some (.dat (.str d.shown)) := by unfold gRepr; simp only [if_pos h]
  unfold V__law_is
  simp [g]
theorem own_sm {ns : Nt} (h : Ok ns) : ∀ i ∈ own ns, Sm i := fun x hx => by
  obtain ⟨i, hi, e⟩ := List.getElem_of_mem hx
  have hin : i < ns.length := by rw [own_len] at hi; exact hi
  have e2 := T_get (t := own ns) hi
  rw [List.getElem?_eq_getElem hi, e] at e2
  have e3 := Option.some.inj e2
  have b := ab_le.mp (own_le hin)
  have lb := least_b h
  have w := H_pos h hin
  rw [← e3] at b
  have : (10 : Nat) ^ 12 = 1000000000000 := by decide
  unfold Sm
  omega
theorem least_sm {ns : Nt} (h : Ok ns) : Sm (least ns) := by
  have lb := least_b h
  have l0 := least_nn ns
  have : (10 : Nat) ^ 12 = 1000000000000 := by decide
  unfold Sm
  omega
/-! ### the same notes moved down -/
def moved (ns : Nt) (d : Int) : Nt := ns.map fun p => (p.1 + d, p.2)
theorem moved_len (ns : Nt) (d : Int) : (moved ns d).length = ns.length := by unfold moved; simp
theorem moved_W {ns : Nt} {d : Int} {i : Nat} (h : i < ns.length) : W (moved ns d) i = W ns i + d := by
  have : (moved ns d)[i]? = some (W ns i + d, Hh ns i) := by
    unfold moved
    rw [List.getElem?_map, W_get h]; rfl
  exact W_of this
theorem moved_A (ns : Nt) (d : Int) (i : Nat) : A (moved ns d) i = A ns i := by
  unfold A moved
  rw [← List.map_take, List.map_map]; rfl
theorem moved_ok {ns : Nt} (h : Ok ns) {d : Int} (hd : 0 ≤ d) (hm : ∀ i, i < ns.length → W ns i + d ≤ 1000) : Ok (moved ns d) := by
  refine ⟨by rw [moved_len]; exact h.len, fun p hp => ?_⟩
  unfold moved at hp
  obtain ⟨q, hq, rfl⟩ := List.mem_map.mp hp
  obtain ⟨i, hi, e⟩ := List.getElem_of_mem hq
  have e2 := W_get (ns := ns) hi
  rw [List.getElem?_eq_getElem hi, e] at e2
  have e3 := Option.some.inj e2
  have h2 := h.all q hq
  have h3 := hm i hi
  have e4 : q.1 = W ns i := by rw [e3]
  refine ⟨?_, ?_, h2.2.2.1, h2.2.2.2⟩ <;> simp only <;> omega
theorem moved_least {ns : Nt} {d : Int} (hd : 0 ≤ d) : least (moved ns d) ≤ least ns := by
  rcases least_is (moved ns d) with e | ⟨l, hl, e⟩ | ⟨l, f, hl, hf, e⟩
  · rw [e]; exact least_nn ns
  · rw [moved_len] at hl
    have h1 := top_le hl
    unfold top at e h1
    rw [moved_A, moved_W hl] at e
    omega
  · rw [moved_len] at hl
    have h1 := half_le hl hf
    have e3 : ex (moved ns d) f l = ex ns f l := by
      unfold ex
      rw [moved_A, moved_A, moved_W hl, moved_W (show f < ns.length by omega)]
      omega
    unfold half at e h1
    rw [e3] at e
    omega
end K07
set_option Elab.async false
set_option linter.all false
set_option maxRecDepth 100000
namespace K07
open PySem PySem.Spec L2 DL
theorem q4 {ns : Nt} (h : Ok ns) (cs : List PD) : ∃ s4 s5 s6, Fr s5 ∧ Fr s6 ∧ (sFor (eIt (eVar 1)) (gT 2 (gsC (gN 5) (gsC (gN 6) gsN))) B__law_is_right_1) [.bor cs, .val (nt ns), .val (.int (least ns)), .own [], .val (.int 0), .un, .un, .un, .un, .un, .un, .un, .un, .un, .un, .un, .un, .un] = some (.nx, [.bor cs, .val (nt ns), .val (.int (least ns)), .own (iL (own ns)), s4, s5, s6, .un, .un, .un, .un, .un, .un, .un, .un, .un, .un, .un]) := by
  have hz := h.len
  obtain ⟨ρ', k1, s5, s6, f5, f6, k2⟩ := forD_all (g := gT 2 (gsC (gN 5) (gsC (gN 6) gsN))) (fb := B__law_is_right_1) (items := ns.map pairD) (ρ := [.bor cs, .val (nt ns), .val (.int (least ns)), .own [], .val (.int 0), .un, .un, .un, .un, .un, .un, .un, .un, .un, .un, .un, .un, .un])
    (fun i ρ => ∃ s5 s6, Fr s5 ∧ Fr s6 ∧ ρ = [.bor cs, .val (nt ns), .val (.int (least ns)), .own (iL (drawn ns i).1), .val (.int (drawn ns i).2), s5, s6, .un, .un, .un, .un, .un, .un, .un, .un, .un, .un, .un]) ⟨.un, .un, Fr.un, Fr.un, rfl⟩ fun i d ρ e ⟨s5, s6, h5, h6, eρ⟩ => by
      obtain ⟨p, hp, rfl⟩ := map_get e
      subst eρ
      have hi : i < ns.length := (List.getElem?_eq_some_iff.mp hp).1
      refine ⟨[.bor cs, .val (nt ns), .val (.int (least ns)), .own (iL (drawn ns i).1), .val (.int (drawn ns i).2), .val (.int p.1), .val (.int p.2), .un, .un, .un, .un, .un, .un, .un, .un, .un, .un, .un], [.bor cs, .val (nt ns), .val (.int (least ns)), .own (iL (drawn ns (i + 1)).1), .val (.int (drawn ns (i + 1)).2), .val (.int p.1), .val (.int p.2), .un, .un, .un, .un, .un, .un, .un, .un, .un, .un, .un], ?_, ?_, .val (.int p.1), .val (.int p.2), Fr.val _, Fr.val _, rfl⟩
      · rw [gT2]; simp [h5, h6]
      · have t1 : (iL (drawn ns i).1).length < 16777216 := by rw [iL_len, drawn_len]; omega
        have t2 := iL_last (drawn ns i).1 (max (drawn ns i).2 (W ns i - least ns))
        have e3 : iL ((drawn ns i).1 ++ [max (drawn ns i).2 (W ns i - least ns)]) = iL (drawn ns i).1 ++ [.int (max (drawn ns i).2 (W ns i - least ns))] := iL_app _ _
        rw [e3] at t2
        rw [show drawn ns (i + 1) = ((drawn ns i).1 ++ [max (drawn ns i).2 (W ns i - least ns)], max (drawn ns i).2 (W ns i - least ns) + Hh ns i) from rfl]
        rw [W_of hp] at t2 e3 ⊢
        rw [H_of hp]
        simp only [e3]
        have mi := maxIf (drawn ns i).2 (p.1 - least ns)
        simp only [gt_iff_lt] at mi
        simp [t1, mi, t2]
  rw [List.length_map] at k2
  subst k2
  refine ⟨.val (.int (drawn ns ns.length).2), s5, s6, f5, f6, ?_⟩
  rw [x_sFor]
  have ei : eIt (eVar 1) [.bor cs, .val (nt ns), .val (.int (least ns)), .own [], .val (.int 0), .un, .un, .un, .un, .un, .un, .un, .un, .un, .un, .un, .un, .un] = some (ns.map pairD, [.bor cs, .val (nt ns), .val (.int (least ns)), .own [], .val (.int 0), .un, .un, .un, .un, .un, .un, .un, .un, .un, .un, .un, .un, .un]) := by simp
  rw [ei]
  exact k1
theorem q6 {ns : Nt} (h : Ok ns) (h1 : ns ≠ []) (cs : List PD) (s4 s5 s6 : SV) : (sIf (tNotD (eTst (eCall 2 V__law_is (eCons (eLst (eCons (eCall 1 V_least_off (eCons (eVar 1) eNil)) (eCons (eCall 1 V_spots (eCons (eVar 1) eNil)) (eCons (eCall 2 V_off (eCons (eVar 1) (eCons (eVar 3) eNil))) eNil)))) (eCons (eLst (eCons (eVar 2) (eCons (eVar 3) (eCons (eCall 2 V__law_off (eCons (eVar 1) (eCons (eVar 3) eNil))) eNil)))) eNil))))) (sRet (eC (.bool false))) sNx) [.bor cs, .val (nt ns), .val (.int (least ns)), .val (tp (own ns)), s4, s5, s6, .un, .un, .un, .un, .un, .un, .un, .un, .un, .un, .un] = some (.nx, [.bor cs, .val (nt ns), .val (.int (least ns)), .val (tp (own ns)), s4, s5, s6, .un, .un, .un, .un, .un, .un, .un, .un, .un, .un, .un]) := by
  have g := own_good h
  have l1 := off_ok h h1 (own_len ns) (okS_iff.mpr g)
  have l2 := loff_ok h h1 (own_len ns)
  rw [own_off h h1] at l1 l2
  have lb := least_sm h
  have r := lawis_ok (repr3 lb lb (own_sm h) (by rw [own_len]; have := h.len; omega))
  simp [leastoff_ok h, spots_ok h, l1, l2, r]
theorem q7 {ns : Nt} (h : Ok ns) (h1 : ns ≠ []) (cs : List PD) (s4 s5 s6 : SV) : (sIf (tOrD (eTst (DL.e2 gNe (eCall 2 V__law_off (eCons (eVar 1) (eCons (eVar 3) eNil))) (eVar 2))) (eTst (DL.e2 gIsNot (eCall 2 V_is_spots (eCons (eVar 1) (eCons (eVar 3) eNil))) (eC (.bool true))))) (sRet (eC (.bool false))) sNx) [.bor cs, .val (nt ns), .val (.int (least ns)), .val (tp (own ns)), s4, s5, s6, .un, .un, .un, .un, .un, .un, .un, .un, .un, .un, .un] = some (.nx, [.bor cs, .val (nt ns), .val (.int (least ns)), .val (tp (own ns)), s4, s5, s6, .un, .un, .un, .un, .un, .un, .un, .un, .un, .un, .un]) := by
  have g := okS_iff.mpr (own_good h)
  have l2 := loff_ok h h1 (own_len ns)
  rw [own_off h h1] at l2
  have l3 := isspots_ok h h1 (t := own ns) (by rw [own_len]; have := h.len; omega)
  rw [g] at l3
  simp [l2, l3]
theorem q89 {ns : Nt} (h : Ok ns) (h1 : ns ≠ []) (cs : List PD) (s4 s5 s6 : SV) : ∃ pd, (sSet 7 (eCall 1 V_pressing (eCons (eVar 1) eNil))) [.bor cs, .val (nt ns), .val (.int (least ns)), .val (tp (own ns)), s4, s5, s6, .un, .un, .un, .un, .un, .un, .un, .un, .un, .un, .un] = some (.nx, [.bor cs, .val (nt ns), .val (.int (least ns)), .val (tp (own ns)), s4, s5, s6, .val pd, .un, .un, .un, .un, .un, .un, .un, .un, .un, .un]) ∧ (sIf (tOrD (eTst (DL.e2 gNe (DL.e2 gIs (eVar 7) (eC .none)) (DL.e2 gEq (eVar 2) (eC (.int 0))))) (tAndD (eTst (DL.e2 gIsNot (eVar 7) (eC .none))) (tNotD (eTst (eCall 3 V__law_presses (eCons (eVar 1) (eCons (eVar 2) (eCons (eVar 7) eNil)))))))) (sRet (eC (.bool false))) sNx) [.bor cs, .val (nt ns), .val (.int (least ns)), .val (tp (own ns)), s4, s5, s6, .val pd, .un, .un, .un, .un, .un, .un, .un, .un, .un, .un] = some (.nx, [.bor cs, .val (nt ns), .val (.int (least ns)), .val (tp (own ns)), s4, s5, s6, .val pd, .un, .un, .un, .un, .un, .un, .un, .un, .un, .un]) := by
  by_cases h0 : least ns = 0
  · refine ⟨.none, ?_, ?_⟩
    · simp [pressing_0 h h0]
    · simp [h0]
  · obtain ⟨l, f, hl, hf, hp, e⟩ := pressing_1 h h0
    have q := lpresses_ok h hl (least ns) f hf
    rw [hp] at q
    refine ⟨.tuple [fD f, .int (l : Int)], ?_, ?_⟩
    · simp [e]
    · simp [h0, q]
theorem q10 {ns : Nt} (h : Ok ns) (h1 : ns ≠ []) {cs : List PD} (hh : HandOk cs) (pd : PD) (s4 s5 s6 : SV) : ∃ cs' s8 s9 s10, HandOk cs' ∧ Fr s8 ∧ Fr s9 ∧ Fr s10 ∧ (sIf (eTst (DL.e2 gGt (eVar 2) (eC (.int 0)))) (sFor (eRng1 (eC (.int 8))) (gN 8) B__law_is_right_2) sNx) [.bor cs, .val (nt ns), .val (.int (least ns)), .val (tp (own ns)), s4, s5, s6, .val pd, .un, .un, .un, .un, .un, .un, .un, .un, .un, .un] = some (.nx, [(.bor cs'), .val (nt ns), .val (.int (least ns)), .val (tp (own ns)), s4, s5, s6, .val pd, s8, s9, s10, .un, .un, .un, .un, .un, .un, .un]) := by
  have hz := h.len
  have hp := ne_pos h1
  by_cases h0 : least ns = 0
  · exact ⟨cs, .un, .un, .un, hh, Fr.un, Fr.un, Fr.un, by simp [h0]⟩
  · have hpos : 0 < least ns := by have := least_nn ns; omega
    obtain ⟨ρ', k1, cs', s8, s9, s10, hh', f8, f9, f10, rfl⟩ := forD_all (g := gN 8) (fb := B__law_is_right_2) (items := rng 0 8) (ρ := [.bor cs, .val (nt ns), .val (.int (least ns)), .val (tp (own ns)), s4, s5, s6, .val pd, .un, .un, .un, .un, .un, .un, .un, .un, .un, .un])
      (fun _ ρ => ∃ cs s8 s9 s10, HandOk cs ∧ Fr s8 ∧ Fr s9 ∧ Fr s10 ∧ ρ = [.bor cs, .val (nt ns), .val (.int (least ns)), .val (tp (own ns)), s4, s5, s6, .val pd, s8, s9, s10, .un, .un, .un, .un, .un, .un, .un]) ⟨cs, .un, .un, .un, hh, Fr.un, Fr.un, Fr.un, rfl⟩ fun i dd ρ e ⟨cs, s8, s9, s10, hh, f8, f9, f10, eρ⟩ => by
        subst eρ
        obtain ⟨r, cs1, e1, hh1, r0, r1⟩ := draw_ok hh (m := (ns.length : Int)) (by omega) (by omega)
        obtain ⟨l, rfl⟩ : ∃ l : Nat, r = (l : Int) := ⟨r.toNat, by omega⟩
        have hl : l < ns.length := by omega
        obtain ⟨x, cs2, e2, hh2, mx⟩ := any_ok hh1 (ds := firsts l) (by rw [firsts_len]; omega) (by rw [firsts_len]; omega)
        obtain ⟨j, hj, ej⟩ := List.getElem_of_mem mx
        obtain ⟨f, rfl, hf, _⟩ := firsts_get (l := l) (i := j) (d := x) (by rw [List.getElem?_eq_getElem hj, ej])
        have q1 := ispressing_ok h h0 hl f hf
        have q2 := lpresses_ok h hl (least ns) f hf
        have q3 := lawis_ok (reprB (press ns (least ns) l f))
        have hr := rgOk_nat (n := l) (by omega)
        have hlen : (rng 0 l).length ≤ 16777215 := by rw [rng_len]; omega
        have ei : PyData.none :: rng 0 l = firsts l := rfl
        refine ⟨[.bor cs, .val (nt ns), .val (.int (least ns)), .val (tp (own ns)), s4, s5, s6, .val pd, .val dd, s9, s10, .un, .un, .un, .un, .un, .un, .un], [.bor cs2, .val (nt ns), .val (.int (least ns)), .val (tp (own ns)), s4, s5, s6, .val pd, .val dd, .val (.int (l : Int)), .val (.tuple [fD f, .int (l : Int)]), .un, .un, .un, .un, .un, .un, .un], by simp [f8], ?_, cs2, _, _, _, hh2, Fr.val dd, Fr.val (.int (l : Int)), Fr.val (.tuple [fD f, .int (l : Int)]), rfl⟩
        simp [e1, f9, hr, hlen, Nat.add_comm, ei, e2, f10, q1, q2, q3]
    have hs := smallI_nat (n := 8) (by omega)
    refine ⟨cs', s8, s9, s10, hh', f8, f9, f10, ?_⟩
    have e8 : smallI 8 = true := hs
    simp [hpos, e8, k1]
theorem q11 {ns : Nt} (h : Ok ns) (h1 : ns ≠ []) {cs : List PD} (hh : HandOk cs) (pd : PD) (s4 s5 s6 s8 s9 s10 : SV) : ∃ (cs' : List PD) (a : Nat), HandOk cs' ∧ a < ns.length ∧ (sSet 11 (eCallB 1 V__law_draw 0 (eCons (eOp gLen (eCons (eVar 1) eNil)) eNil))) [.bor cs, .val (nt ns), .val (.int (least ns)), .val (tp (own ns)), s4, s5, s6, .val pd, s8, s9, s10, .un, .un, .un, .un, .un, .un, .un] = some (.nx, [(.bor cs'), .val (nt ns), .val (.int (least ns)), .val (tp (own ns)), s4, s5, s6, .val pd, s8, s9, s10, .val (.int (a : Int)), .un, .un, .un, .un, .un, .un]) := by
  have hz := h.len
  have hp := ne_pos h1
  obtain ⟨r, cs1, e1, hh1, r0, r1⟩ := draw_ok hh (m := (ns.length : Int)) (by omega) (by omega)
  obtain ⟨l, rfl⟩ : ∃ l : Nat, r = (l : Int) := ⟨r.toNat, by omega⟩
  exact ⟨cs1, l, hh1, by omega, by simp [e1]⟩
theorem q12 {ns : Nt} (h : Ok ns) (h1 : ns ≠ []) (cs : List PD) (a : Nat) (pd : PD) (s4 s5 s6 s8 s9 s10 : SV) : (sSet 12 (eCall 1 V_sum_spots (eCons (eVar 1) eNil))) [.bor cs, .val (nt ns), .val (.int (least ns)), .val (tp (own ns)), s4, s5, s6, .val pd, s8, s9, s10, .val (.int (a : Int)), .un, .un, .un, .un, .un, .un] = some (.nx, [.bor cs, .val (nt ns), .val (.int (least ns)), .val (tp (own ns)), s4, s5, s6, .val pd, s8, s9, s10, .val (.int (a : Int)), .val (tp (some' ns)), .un, .un, .un, .un, .un]) := by
  simp [sumspots_ok h h1]
theorem q13 {ns : Nt} (h : Ok ns) (h1 : ns ≠ []) (cs : List PD) (a : Nat) (pd : PD) (s4 s5 s6 s8 s9 s10 : SV) : (sIf (tOrD (eTst (DL.e2 gNe (eCall 1 V_least_sum (eCons (eVar 1) eNil)) (eCall 1 V__law_sum (eCons (eVar 1) eNil)))) (tNotD (eTst (eCall 2 V__law_are_spots (eCons (eVar 1) (eCons (eVar 12) eNil)))))) (sRet (eC (.bool false))) sNx) [.bor cs, .val (nt ns), .val (.int (least ns)), .val (tp (own ns)), s4, s5, s6, .val pd, s8, s9, s10, .val (.int (a : Int)), .val (tp (some' ns)), .un, .un, .un, .un, .un] = some (.nx, [.bor cs, .val (nt ns), .val (.int (least ns)), .val (tp (own ns)), s4, s5, s6, .val pd, s8, s9, s10, .val (.int (a : Int)), .val (tp (some' ns)), .un, .un, .un, .un, .un]) := by
  have g := okS_iff.mpr (some_good h h1)
  have l3 := lare_ok h h1 (t := some' ns) (by rw [some_len]; have := h.len; omega)
  rw [g] at l3
  simp [leastsum_ok h h1, lsum_ok h h1, l3]
theorem q14 {ns : Nt} (h : Ok ns) (h1 : ns ≠ []) (cs : List PD) (a : Nat) (pd : PD) (s4 s5 s6 s8 s9 s10 : SV) : (sIf (eTst (DL.e2 gNe (eOp gSum (eCons (eComp [16, 17] (eZip2 (eCons (eVar 12) (eCons (eVar 1) eNil))) (gT 2 (gsC (gN 16) (gsC (gN 17) gsN))) (pur true) B__law_is_right_3) eNil)) (eCall 1 V__law_sum (eCons (eVar 1) eNil)))) (sRet (eC (.bool false))) sNx) [.bor cs, .val (nt ns), .val (.int (least ns)), .val (tp (own ns)), s4, s5, s6, .val pd, s8, s9, s10, .val (.int (a : Int)), .val (tp (some' ns)), .un, .un, .un, .un, .un] = some (.nx, [.bor cs, .val (nt ns), .val (.int (least ns)), .val (tp (own ns)), s4, s5, s6, .val pd, s8, s9, s10, .val (.int (a : Int)), .val (tp (some' ns)), .un, .un, .un, .un, .un]) := by
  have hz := h.len
  have hl := some_len ns
  have c1 : eComp [16, 17] (eZip2 (eCons (eVar 12) (eCons (eVar 1) eNil))) (gT 2 (gsC (gN 16) (gsC (gN 17) gsN))) (pur true) B__law_is_right_3 [.bor cs, .val (nt ns), .val (.int (least ns)), .val (tp (own ns)), s4, s5, s6, .val pd, s8, s9, s10, .val (.int (a : Int)), .val (tp (some' ns)), .un, .un, .un, .un, .un] = some (.frL (iL (offs ns (some' ns))), [.bor cs, .val (nt ns), .val (.int (least ns)), .val (tp (own ns)), s4, s5, s6, .val pd, s8, s9, s10, .val (.int (a : Int)), .val (tp (some' ns)), .un, .un, .un, .un, .un]) := by
    rw [eComp_idx (n := ns.length) (ρ1 := [.bor cs, .val (nt ns), .val (.int (least ns)), .val (tp (own ns)), s4, s5, s6, .val pd, s8, s9, s10, .val (.int (a : Int)), .val (tp (some' ns)), .un, .un, .un, .un, .un]) (ρ2 := [.bor cs, .val (nt ns), .val (.int (least ns)), .val (tp (own ns)), s4, s5, s6, .val pd, s8, s9, s10, .val (.int (a : Int)), .val (tp (some' ns)), .un, .un, .un, .un, .un]) (items := zip2D (iL (some' ns)) (ns.map pairD)) (fun i => .tuple [.int (T (some' ns) i), pairD (W ns i, Hh ns i)]) (fun i => .int (ab (T (some' ns) i - W ns i))) (by simp) (by rw [zip2_len, iL_len, List.length_map]; omega) (by omega) (by simp) (fun i hi => zip2_at (iL_get (by omega)) (by rw [List.getElem?_map, W_get (by omega)]; rfl)) fun i hi => ?_]
    · rw [iL_map]; simp [offs]
    · refine ⟨[.bor cs, .val (nt ns), .val (.int (least ns)), .val (tp (own ns)), s4, s5, s6, .val pd, s8, s9, s10, .val (.int (a : Int)), .val (tp (some' ns)), .un, .un, .un, (.val (.int (T (some' ns) i))), (.val (pairD (W ns i, Hh ns i)))], [.bor cs, .val (nt ns), .val (.int (least ns)), .val (tp (own ns)), s4, s5, s6, .val pd, s8, s9, s10, .val (.int (a : Int)), .val (tp (some' ns)), .un, .un, .un, (.val (.int (T (some' ns) i))), (.val (pairD (W ns i, Hh ns i)))], by simp, ?_, by simp⟩
      simp [pair0, ab]
  have gs : gSum [.list (iL (offs ns (some' ns)))] = some (.dat (.int (lsum ns))) := by
    unfold gSum
    simp only [intsD_iL]
    show some (Hd.dat (PyData.int (offs ns (some' ns)).sum)) = _
    rw [show (offs ns (some' ns)).sum = lsum ns from some_sum ns]
  simp [c1, gs, lsum_ok h h1]
theorem add_tup {fa fb : M Hd} {ρ : En} {x y : List PD} (ha : fa ρ = some (.dat (.tuple x), ρ)) (hb : fb ρ = some (.dat (.tuple y), ρ)) (hl : x.length + y.length ≤ 16777216) : DL.e2 gAdd fa fb ρ = some (.dat (.tuple (x ++ y)), ρ) := by
  simp [ha, hb, hl]
theorem one_tup {fa : M Hd} {ρ : En} {x : PD} (ha : fa ρ = some (.dat x, ρ)) : eTup (eCons fa eNil) ρ = some (.dat (.tuple [x]), ρ) := by
  simp [ha]
theorem four_tup {f1 f2 f3 f4 : M Hd} {ρ : En} {x1 x2 x3 x4 : PD} (h1 : f1 ρ = some (.dat x1, ρ)) (h2 : f2 ρ = some (.dat x2, ρ)) (h3 : f3 ρ = some (.dat x3, ρ)) (h4 : f4 ρ = some (.dat x4, ρ)) : eTup (eCons f1 (eCons f2 (eCons f3 (eCons f4 eNil)))) ρ = some (.dat (.tuple [x1, x2, x3, x4]), ρ) := by
  simp [h1, h2, h3, h4]
theorem q15 {ns : Nt} (h : Ok ns) (h1 : ns ≠ []) (cs : List PD) (a : Nat) (pd : PD) (s4 s5 s6 s8 s9 s10 : SV) (ha : a < ns.length) (f10 : Fr s10) : ∃ t10 t13, Fr t10 ∧ Fr t13 ∧ (sFor (eIt (eTup (eCons (eVar 12) (eCons (DL.e2 gAdd (DL.e2 gAdd (eSl (eVar 3) oNo (oSo (eVar 11))) (eTup (eCons (DL.e2 gAdd (DL.e2 gIx (eVar 3) (eVar 11)) (eC (.int 1))) eNil))) (eSl (eVar 3) (oSo (DL.e2 gAdd (eVar 11) (eC (.int 1)))) oNo)) (eCons (DL.e2 gAdd (DL.e2 gAdd (eSl (eVar 3) oNo (oSo (eVar 11))) (eTup (eCons (DL.e2 gSub (DL.e2 gIx (eVar 3) (eVar 11)) (eC (.int 1))) eNil))) (eSl (eVar 3) (oSo (DL.e2 gAdd (eVar 11) (eC (.int 1)))) oNo)) (eCons (eSl (eVar 3) (oSo (eC (.int 1))) oNo) eNil)))))) (gN 10) B__law_is_right_4) [.bor cs, .val (nt ns), .val (.int (least ns)), .val (tp (own ns)), s4, s5, s6, .val pd, s8, s9, s10, .val (.int (a : Int)), .val (tp (some' ns)), .un, .un, .un, .un, .un] = some (.nx, [.bor cs, .val (nt ns), .val (.int (least ns)), .val (tp (own ns)), s4, s5, s6, .val pd, s8, s9, t10, .val (.int (a : Int)), .val (tp (some' ns)), t13, .un, .un, .un, .un]) := by
  have hz := h.len
  have ol := own_len ns
  have oil : (iL (own ns)).length = ns.length := by rw [iL_len, ol]
  have ga := iL_at (t := own ns) (i := a) (by omega)
  have c1 : eSl (eVar 3) oNo (oSo (eVar 11)) [.bor cs, .val (nt ns), .val (.int (least ns)), .val (tp (own ns)), s4, s5, s6, .val pd, s8, s9, s10, .val (.int (a : Int)), .val (tp (some' ns)), .un, .un, .un, .un, .un] = some (.dat (.tuple ((iL (own ns)).take a)), [.bor cs, .val (nt ns), .val (.int (least ns)), .val (tp (own ns)), s4, s5, s6, .val pd, s8, s9, s10, .val (.int (a : Int)), .val (tp (some' ns)), .un, .un, .un, .un, .un]) := by simp [cut_take]
  have ct := cut_drop (iL (own ns)) (a + 1)
  rw [Int.natCast_add] at ct
  simp only [Int.natCast_one] at ct
  have c2 : eSl (eVar 3) (oSo (DL.e2 gAdd (eVar 11) (eC (.int 1)))) oNo [.bor cs, .val (nt ns), .val (.int (least ns)), .val (tp (own ns)), s4, s5, s6, .val pd, s8, s9, s10, .val (.int (a : Int)), .val (tp (some' ns)), .un, .un, .un, .un, .un] = some (.dat (.tuple ((iL (own ns)).drop (a + 1))), [.bor cs, .val (nt ns), .val (.int (least ns)), .val (tp (own ns)), s4, s5, s6, .val pd, s8, s9, s10, .val (.int (a : Int)), .val (tp (some' ns)), .un, .un, .un, .un, .un]) := by simp [ct]
  have c3 : DL.e2 gAdd (DL.e2 gIx (eVar 3) (eVar 11)) (eC (.int 1)) [.bor cs, .val (nt ns), .val (.int (least ns)), .val (tp (own ns)), s4, s5, s6, .val pd, s8, s9, s10, .val (.int (a : Int)), .val (tp (some' ns)), .un, .un, .un, .un, .un] = some (.dat (.int (T (own ns) a + 1)), [.bor cs, .val (nt ns), .val (.int (least ns)), .val (tp (own ns)), s4, s5, s6, .val pd, s8, s9, s10, .val (.int (a : Int)), .val (tp (some' ns)), .un, .un, .un, .un, .un]) := by simp [ga]
  have c4 : DL.e2 gSub (DL.e2 gIx (eVar 3) (eVar 11)) (eC (.int 1)) [.bor cs, .val (nt ns), .val (.int (least ns)), .val (tp (own ns)), s4, s5, s6, .val pd, s8, s9, s10, .val (.int (a : Int)), .val (tp (some' ns)), .un, .un, .un, .un, .un] = some (.dat (.int (T (own ns) a - 1)), [.bor cs, .val (nt ns), .val (.int (least ns)), .val (tp (own ns)), s4, s5, s6, .val pd, s8, s9, s10, .val (.int (a : Int)), .val (tp (some' ns)), .un, .un, .un, .un, .un]) := by simp [ga]
  have ct1 : cutD (iL (own ns)) (some 1) none = (iL (own ns)).drop 1 := cut_drop (iL (own ns)) 1
  have c5 : eSl (eVar 3) (oSo (eC (.int 1))) oNo [.bor cs, .val (nt ns), .val (.int (least ns)), .val (tp (own ns)), s4, s5, s6, .val pd, s8, s9, s10, .val (.int (a : Int)), .val (tp (some' ns)), .un, .un, .un, .un, .un] = some (.dat (.tuple ((iL (own ns)).drop 1)), [.bor cs, .val (nt ns), .val (.int (least ns)), .val (tp (own ns)), s4, s5, s6, .val pd, s8, s9, s10, .val (.int (a : Int)), .val (tp (some' ns)), .un, .un, .un, .un, .un]) := by simp [ct1]
  have c6 : eVar 12 [.bor cs, .val (nt ns), .val (.int (least ns)), .val (tp (own ns)), s4, s5, s6, .val pd, s8, s9, s10, .val (.int (a : Int)), .val (tp (some' ns)), .un, .un, .un, .un, .un] = some (.dat (tp (some' ns)), [.bor cs, .val (nt ns), .val (.int (least ns)), .val (tp (own ns)), s4, s5, s6, .val pd, s8, s9, s10, .val (.int (a : Int)), .val (tp (some' ns)), .un, .un, .un, .un, .un]) := by simp
  have t1 : ((iL (own ns)).take a).length ≤ 30 := by rw [List.length_take]; omega
  have t2 : ((iL (own ns)).drop (a + 1)).length ≤ 30 := by rw [List.length_drop]; omega
  have d1 := add_tup (add_tup c1 (one_tup c3) (by simp only [List.length_cons, List.length_nil]; omega)) c2 (by simp only [List.length_append, List.length_cons, List.length_nil]; omega)
  have d2 := add_tup (add_tup c1 (one_tup c4) (by simp only [List.length_cons, List.length_nil]; omega)) c2 (by simp only [List.length_append, List.length_cons, List.length_nil]; omega)
  have d3 := four_tup c6 d1 d2 c5
  have tps : ∀ x : Int, PyData.tuple ((iL (own ns)).take a ++ [.int x] ++ (iL (own ns)).drop (a + 1)) = tp ((own ns).take a ++ [x] ++ (own ns).drop (a + 1)) := fun x => by
    unfold tp iL
    rw [List.map_append, List.map_append, List.map_take, List.map_drop]; rfl
  have tpd : PyData.tuple ((iL (own ns)).drop 1) = tp ((own ns).drop 1) := by
    unfold tp iL
    rw [List.map_drop]
  rw [tps, tps, tpd] at d3
  have step : ∀ (t : List Int) (s10 s13 : SV), t.length ≤ 1000 → Fr s10 → Fr s13 → gN 10 (tp t) [.bor cs, .val (nt ns), .val (.int (least ns)), .val (tp (own ns)), s4, s5, s6, .val pd, s8, s9, s10, .val (.int (a : Int)), .val (tp (some' ns)), s13, .un, .un, .un, .un] = some [.bor cs, .val (nt ns), .val (.int (least ns)), .val (tp (own ns)), s4, s5, s6, .val pd, s8, s9, .val (tp t), .val (.int (a : Int)), .val (tp (some' ns)), s13, .un, .un, .un, .un] ∧ ∃ s13', Fr s13' ∧ B__law_is_right_4 [.bor cs, .val (nt ns), .val (.int (least ns)), .val (tp (own ns)), s4, s5, s6, .val pd, s8, s9, .val (tp t), .val (.int (a : Int)), .val (tp (some' ns)), s13, .un, .un, .un, .un] = some (.nx, [.bor cs, .val (nt ns), .val (.int (least ns)), .val (tp (own ns)), s4, s5, s6, .val pd, s8, s9, .val (tp t), .val (.int (a : Int)), .val (tp (some' ns)), s13', .un, .un, .un, .un]) := fun t s10 s13 ht f10 f13 => by
    refine ⟨by simp [f10], .val (.bool (okS ns t)), Fr.val _, ?_⟩
    have g1 := lare_ok h h1 ht
    have g2 := isspots_ok h h1 ht
    have g3 := lawis_ok (reprB (okS ns t))
    cases hk : okS ns t with
    | false =>
      rw [hk] at g1 g2 g3
      simp [g1, g2, g3, f13]
    | true =>
      rw [hk] at g1 g2 g3
      have gd := okS_iff.mp hk
      have g4 := off_ok h h1 gd.len hk
      have g5 := loff_ok h h1 gd.len
      have g6 := low h1 gd
      have g7 : ¬ offv ns t < least ns := by omega
      simp [g1, g2, g3, g4, g5, g7, f13]
  have all : ∀ (items : List PD), (∀ x ∈ items, ∃ t : List Int, x = tp t ∧ t.length ≤ 1000) → ∀ s10 s13, Fr s10 → Fr s13 → ∃ ρ', forD (gN 10) B__law_is_right_4 items [.bor cs, .val (nt ns), .val (.int (least ns)), .val (tp (own ns)), s4, s5, s6, .val pd, s8, s9, s10, .val (.int (a : Int)), .val (tp (some' ns)), s13, .un, .un, .un, .un] = some (.nx, ρ') ∧ ∃ s10 s13, Fr s10 ∧ Fr s13 ∧ ρ' = [.bor cs, .val (nt ns), .val (.int (least ns)), .val (tp (own ns)), s4, s5, s6, .val pd, s8, s9, s10, .val (.int (a : Int)), .val (tp (some' ns)), s13, .un, .un, .un, .un] := fun items hi s10 s13 f10 f13 =>
    forD_all (fun _ ρ => ∃ s10 s13, Fr s10 ∧ Fr s13 ∧ ρ = [.bor cs, .val (nt ns), .val (.int (least ns)), .val (tp (own ns)), s4, s5, s6, .val pd, s8, s9, s10, .val (.int (a : Int)), .val (tp (some' ns)), s13, .un, .un, .un, .un]) ⟨s10, s13, f10, f13, rfl⟩ fun i d ρ e ⟨s10, s13, f10, f13, eρ⟩ => by
      subst eρ
      obtain ⟨t, rfl, ht⟩ := hi d (List.mem_of_getElem? e)
      obtain ⟨k1, s13', f13', k2⟩ := step t s10 s13 ht f10 f13
      exact ⟨_, _, k1, k2, _, s13', Fr.val _, f13', rfl⟩
  have lt : ∀ x : Int, ((own ns).take a ++ [x] ++ (own ns).drop (a + 1)).length ≤ 1000 := fun x => by
    simp only [List.length_append, List.length_take, List.length_drop, List.length_cons, List.length_nil]; omega
  obtain ⟨ρ', k1, s10', s13', f10', f13', rfl⟩ := all [tp (some' ns), tp ((own ns).take a ++ [T (own ns) a + 1] ++ (own ns).drop (a + 1)), tp ((own ns).take a ++ [T (own ns) a - 1] ++ (own ns).drop (a + 1)), tp ((own ns).drop 1)] (fun x hx => by
    simp only [List.mem_cons, List.not_mem_nil, or_false] at hx
    rcases hx with rfl | rfl | rfl | rfl
    · exact ⟨_, rfl, by rw [some_len]; omega⟩
    · exact ⟨_, rfl, lt _⟩
    · exact ⟨_, rfl, lt _⟩
    · exact ⟨_, rfl, by rw [List.length_drop]; omega⟩) s10 .un f10 Fr.un
  refine ⟨s10', s13', f10', f13', ?_⟩
  rw [x_sFor, x_eIt, x_eFrz, d3]
  exact k1
theorem q16 {ns : Nt} {cs : List PD} (hh : HandOk cs) (a : Nat) (pd : PD) (s4 s5 s6 s8 s9 s10 s13 : SV) : ∃ (cs' : List PD) (d : Int), HandOk cs' ∧ 0 ≤ d ∧ (sSet 14 (DL.e2 gAdd (eC (.int 1)) (eCallB 1 V__law_draw 0 (eCons (eC (.int 200)) eNil)))) [.bor cs, .val (nt ns), .val (.int (least ns)), .val (tp (own ns)), s4, s5, s6, .val pd, s8, s9, s10, .val (.int (a : Int)), .val (tp (some' ns)), s13, .un, .un, .un, .un] = some (.nx, [(.bor cs'), .val (nt ns), .val (.int (least ns)), .val (tp (own ns)), s4, s5, s6, .val pd, s8, s9, s10, .val (.int (a : Int)), .val (tp (some' ns)), s13, .val (.int d), .un, .un, .un]) := by
  obtain ⟨r, cs1, e1, hh1, r0, r1⟩ := draw_ok hh (m := 200) (by omega) (by omega)
  exact ⟨cs1, 1 + r, hh1, by omega, by simp [e1]⟩
def wsl (ns : Nt) : List Int := (List.range ns.length).map (W ns)
theorem q17 {ns : Nt} (h : Ok ns) (h1 : ns ≠ []) (cs : List PD) (a : Nat) (d : Int) (pd : PD) (s4 s5 s6 s8 s9 s10 s13 : SV) : (sIf (eTst (DL.e2 gGt (DL.e2 gAdd (eOp gMax (eCons (eComp [17] (eIt (eVar 1)) (gN 17) (pur true) B__law_is_right_5) eNil)) (eVar 14)) (eC (.int 1000)))) (sRet (eC (.bool true))) sNx) [.bor cs, .val (nt ns), .val (.int (least ns)), .val (tp (own ns)), s4, s5, s6, .val pd, s8, s9, s10, .val (.int (a : Int)), .val (tp (some' ns)), s13, .val (.int d), .un, .un, .un] = if maxI (wsl ns) + d > 1000 then some (.rt (.dat (.bool true)), [.bor cs, .val (nt ns), .val (.int (least ns)), .val (tp (own ns)), s4, s5, s6, .val pd, s8, s9, s10, .val (.int (a : Int)), .val (tp (some' ns)), s13, .val (.int d), .un, .un, .un]) else some (.nx, [.bor cs, .val (nt ns), .val (.int (least ns)), .val (tp (own ns)), s4, s5, s6, .val pd, s8, s9, s10, .val (.int (a : Int)), .val (tp (some' ns)), s13, .val (.int d), .un, .un, .un]) := by
  have hz := h.len
  have hp := ne_pos h1
  have c1 : eComp [17] (eIt (eVar 1)) (gN 17) (pur true) B__law_is_right_5 [.bor cs, .val (nt ns), .val (.int (least ns)), .val (tp (own ns)), s4, s5, s6, .val pd, s8, s9, s10, .val (.int (a : Int)), .val (tp (some' ns)), s13, .val (.int d), .un, .un, .un] = some (.frL (iL (wsl ns)), [.bor cs, .val (nt ns), .val (.int (least ns)), .val (tp (own ns)), s4, s5, s6, .val pd, s8, s9, s10, .val (.int (a : Int)), .val (tp (some' ns)), s13, .val (.int d), .un, .un, .un]) := by
    rw [eComp_idx (n := ns.length) (ρ1 := [.bor cs, .val (nt ns), .val (.int (least ns)), .val (tp (own ns)), s4, s5, s6, .val pd, s8, s9, s10, .val (.int (a : Int)), .val (tp (some' ns)), s13, .val (.int d), .un, .un, .un]) (ρ2 := [.bor cs, .val (nt ns), .val (.int (least ns)), .val (tp (own ns)), s4, s5, s6, .val pd, s8, s9, s10, .val (.int (a : Int)), .val (tp (some' ns)), s13, .val (.int d), .un, .un, .un]) (items := ns.map pairD) (fun i => pairD (W ns i, Hh ns i)) (fun i => .int (W ns i)) (by simp) (List.length_map ..) (by omega) (by simp) (fun i hi => by rw [List.getElem?_map, W_get hi]; rfl) fun i hi => ⟨[.bor cs, .val (nt ns), .val (.int (least ns)), .val (tp (own ns)), s4, s5, s6, .val pd, s8, s9, s10, .val (.int (a : Int)), .val (tp (some' ns)), s13, .val (.int d), .un, .un, (.val (pairD (W ns i, Hh ns i)))], [.bor cs, .val (nt ns), .val (.int (least ns)), .val (tp (own ns)), s4, s5, s6, .val pd, s8, s9, s10, .val (.int (a : Int)), .val (tp (some' ns)), s13, .val (.int d), .un, .un, (.val (pairD (W ns i, Hh ns i)))], by simp, by simp [pair0], by simp⟩]
    rw [iL_map]; simp [wsl]
  have gm := gMax_iL (l := wsl ns) (fun e => by have := congrArg List.length e; unfold wsl at this; simp at this; exact h1 this)
  by_cases hc : maxI (wsl ns) + d > 1000
  · rw [if_pos hc]
    simp only [gt_iff_lt] at hc
    simp [c1, gm, hc]
  · rw [if_neg hc]
    simp only [gt_iff_lt] at hc
    simp [c1, gm, hc]
theorem q18 {ns : Nt} (h : Ok ns) (cs : List PD) (a : Nat) (d : Int) (pd : PD) (s4 s5 s6 s8 s9 s10 s13 : SV) (f5 : Fr s5) (f6 : Fr s6) : (sSet 15 (eOp gTuple (eCons (eComp [5, 6] (eIt (eVar 1)) (gT 2 (gsC (gN 5) (gsC (gN 6) gsN))) (pur true) B__law_is_right_6) eNil))) [.bor cs, .val (nt ns), .val (.int (least ns)), .val (tp (own ns)), s4, s5, s6, .val pd, s8, s9, s10, .val (.int (a : Int)), .val (tp (some' ns)), s13, .val (.int d), .un, .un, .un] = some (.nx, [.bor cs, .val (nt ns), .val (.int (least ns)), .val (tp (own ns)), s4, s5, s6, .val pd, s8, s9, s10, .val (.int (a : Int)), .val (tp (some' ns)), s13, .val (.int d), .val (nt (moved ns d)), .un, .un]) := by
  have hz := h.len
  have c1 : eComp [5, 6] (eIt (eVar 1)) (gT 2 (gsC (gN 5) (gsC (gN 6) gsN))) (pur true) B__law_is_right_6 [.bor cs, .val (nt ns), .val (.int (least ns)), .val (tp (own ns)), s4, s5, s6, .val pd, s8, s9, s10, .val (.int (a : Int)), .val (tp (some' ns)), s13, .val (.int d), .un, .un, .un] = some (.frL ((moved ns d).map pairD), [.bor cs, .val (nt ns), .val (.int (least ns)), .val (tp (own ns)), s4, s5, s6, .val pd, s8, s9, s10, .val (.int (a : Int)), .val (tp (some' ns)), s13, .val (.int d), .un, .un, .un]) := by
    have ei : (moved ns d).map pairD = (List.range ns.length).map fun i => pairD (W ns i + d, Hh ns i) := list_idx (by rw [List.length_map, moved_len]) fun i hi => by
      unfold moved
      rw [List.map_map, List.getElem?_map, W_get hi]; rfl
    rw [eComp_idx (n := ns.length) (ρ1 := [.bor cs, .val (nt ns), .val (.int (least ns)), .val (tp (own ns)), s4, s5, s6, .val pd, s8, s9, s10, .val (.int (a : Int)), .val (tp (some' ns)), s13, .val (.int d), .un, .un, .un]) (ρ2 := [.bor cs, .val (nt ns), .val (.int (least ns)), .val (tp (own ns)), s4, .un, .un, .val pd, s8, s9, s10, .val (.int (a : Int)), .val (tp (some' ns)), s13, .val (.int d), .un, .un, .un]) (items := ns.map pairD) (fun i => pairD (W ns i, Hh ns i)) (fun i => pairD (W ns i + d, Hh ns i)) (by simp) (List.length_map ..) (by omega) (by rcases f5 with rfl | ⟨_, rfl⟩ <;> rcases f6 with rfl | ⟨_, rfl⟩ <;> simp) (fun i hi => by rw [List.getElem?_map, W_get hi]; rfl) fun i hi => ⟨[.bor cs, .val (nt ns), .val (.int (least ns)), .val (tp (own ns)), s4, (.val (.int (W ns i))), (.val (.int (Hh ns i))), .val pd, s8, s9, s10, .val (.int (a : Int)), .val (tp (some' ns)), s13, .val (.int d), .un, .un, .un], [.bor cs, .val (nt ns), .val (.int (least ns)), .val (tp (own ns)), s4, (.val (.int (W ns i))), (.val (.int (Hh ns i))), .val pd, s8, s9, s10, .val (.int (a : Int)), .val (tp (some' ns)), s13, .val (.int d), .un, .un, .un], by rw [gT2]; simp, by simp [pairD], by simp⟩]
    rw [ei]
    simp
  simp [c1]
  rfl
theorem q19 {ns : Nt} (h : Ok ns) (h1 : ns ≠ []) (cs : List PD) (a : Nat) (d : Int) (pd : PD) (s4 s5 s6 s8 s9 s10 s13 : SV) (hm : Ok (moved ns d)) (hd : 0 ≤ d) : (sRet (eAnd (DL.e2 gEq (eCall 1 V_least_off (eCons (eVar 15) eNil)) (eCall 1 V__law_least (eCons (eVar 15) eNil))) (eAnd (DL.e2 gLe (eCall 1 V_least_off (eCons (eVar 15) eNil)) (eVar 2)) (DL.e2 gEq (eCall 1 V_least_sum (eCons (eVar 15) eNil)) (eCall 1 V__law_sum (eCons (eVar 15) eNil)))))) [.bor cs, .val (nt ns), .val (.int (least ns)), .val (tp (own ns)), s4, s5, s6, .val pd, s8, s9, s10, .val (.int (a : Int)), .val (tp (some' ns)), s13, .val (.int d), .val (nt (moved ns d)), .un, .un] = some (.rt (.dat (.bool true)), [.bor cs, .val (nt ns), .val (.int (least ns)), .val (tp (own ns)), s4, s5, s6, .val pd, s8, s9, s10, .val (.int (a : Int)), .val (tp (some' ns)), s13, .val (.int d), .val (nt (moved ns d)), .un, .un]) := by
  have hp := ne_pos h1
  have h2 : moved ns d ≠ [] := fun e => by have := congrArg List.length e; rw [moved_len] at this; simp at this; exact h1 this
  have ml := moved_least (ns := ns) hd
  simp [leastoff_ok hm, lleast_ok hm, leastsum_ok hm h2, lsum_ok hm h2, ml]
theorem right_ok {cs : List PD} (hh : HandOk cs) : ∃ cs', V__law_is_right cs [] = some (.dat (.bool true), cs') ∧ HandOk cs' := by
  obtain ⟨ns, cs1, e1, hh1, h, h1⟩ := notes_ok hh
  have k1 : (sSet 1 (eCallB 0 V__law_notes 0 eNil)) [.bor cs, .un, .un, .un, .un, .un, .un, .un, .un, .un, .un, .un, .un, .un, .un, .un, .un, .un] = some (.nx, [.bor cs1, .val (nt ns), .un, .un, .un, .un, .un, .un, .un, .un, .un, .un, .un, .un, .un, .un, .un, .un]) := by simp [e1]
  have k2 : (sSet 2 (eCall 1 V__law_least (eCons (eVar 1) eNil))) [.bor cs1, .val (nt ns), .un, .un, .un, .un, .un, .un, .un, .un, .un, .un, .un, .un, .un, .un, .un, .un] = some (.nx, [.bor cs1, .val (nt ns), .val (.int (least ns)), .un, .un, .un, .un, .un, .un, .un, .un, .un, .un, .un, .un, .un, .un, .un]) := by simp [lleast_ok h]
  have k3 : (sPar 3 4 (eCons (eLst eNil) (eCons (eC (.int 0)) eNil))) [.bor cs1, .val (nt ns), .val (.int (least ns)), .un, .un, .un, .un, .un, .un, .un, .un, .un, .un, .un, .un, .un, .un, .un] = some (.nx, [.bor cs1, .val (nt ns), .val (.int (least ns)), .own [], .val (.int 0), .un, .un, .un, .un, .un, .un, .un, .un, .un, .un, .un, .un, .un]) := by simp
  obtain ⟨s4, s5, s6, f5, f6, k4⟩ := q4 h cs1
  have k5 : (sSet 3 (eOp gTuple (eCons (eVar 3) eNil))) [.bor cs1, .val (nt ns), .val (.int (least ns)), .own (iL (own ns)), s4, s5, s6, .un, .un, .un, .un, .un, .un, .un, .un, .un, .un, .un] = some (.nx, [.bor cs1, .val (nt ns), .val (.int (least ns)), .val (tp (own ns)), s4, s5, s6, .un, .un, .un, .un, .un, .un, .un, .un, .un, .un, .un]) := by simp [tp]
  have k6 := q6 h h1 cs1 s4 s5 s6
  have k7 := q7 h h1 cs1 s4 s5 s6
  obtain ⟨pd, k8, k9⟩ := q89 h h1 cs1 s4 s5 s6
  obtain ⟨cs2, s8, s9, s10, hh2, f8, f9, f10, k10⟩ := q10 h h1 hh1 pd s4 s5 s6
  obtain ⟨cs3, a, hh3, ha, k11⟩ := q11 h h1 hh2 pd s4 s5 s6 s8 s9 s10
  have k12 := q12 h h1 cs3 a pd s4 s5 s6 s8 s9 s10
  have k13 := q13 h h1 cs3 a pd s4 s5 s6 s8 s9 s10
  have k14 := q14 h h1 cs3 a pd s4 s5 s6 s8 s9 s10
  obtain ⟨s10', s13, f10', f13, k15⟩ := q15 h h1 cs3 a pd s4 s5 s6 s8 s9 s10 ha f10
  obtain ⟨cs4, d, hh4, hd, k16⟩ := q16 (ns := ns) hh3 a pd s4 s5 s6 s8 s9 s10' s13
  have k17 := q17 h h1 cs4 a d pd s4 s5 s6 s8 s9 s10' s13
  have k18 := q18 h cs4 a d pd s4 s5 s6 s8 s9 s10' s13 f5 f6
  have fin : ∀ {ρ : En}, B__law_is_right [.bor cs, .un, .un, .un, .un, .un, .un, .un, .un, .un, .un, .un, .un, .un, .un, .un, .un, .un] = some (.rt (.dat (.bool true)), .bor cs4 :: ρ) → V__law_is_right cs [] = some (.dat (.bool true), cs4) := fun {ρ} e => by
    unfold V__law_is_right runB
    rw [show (SV.bor cs :: (([] : List PD).map SV.val ++ List.replicate (18 - 1 - ([] : List PD).length) SV.un)) = [.bor cs, .un, .un, .un, .un, .un, .un, .un, .un, .un, .un, .un, .un, .un, .un, .un, .un, .un] from rfl, e]
    rfl
  refine ⟨cs4, ?_, hh4⟩
  by_cases hc : maxI (wsl ns) + d > 1000
  · rw [if_pos hc] at k17
    refine fin (ρ := [SV.bor cs4, .val (nt ns), .val (.int (least ns)), .val (tp (own ns)), s4, s5, s6, .val pd, s8, s9, s10', .val (.int (a : Int)), .val (tp (some' ns)), s13, .val (.int d), .un, .un, .un].tail) ?_
    unfold B__law_is_right
    rw [seq_nx k1, seq_nx k2, seq_nx k3, seq_nx k4, seq_nx k5, seq_nx k6, seq_nx k7, seq_nx k8, seq_nx k9, seq_nx k10, seq_nx k11, seq_nx k12, seq_nx k13, seq_nx k14, seq_nx k15, seq_nx k16, seq_rt k17]
    rfl
  · rw [if_neg hc] at k17
    have hm : Ok (moved ns d) := moved_ok h hd fun i hi => by
      have : W ns i ≤ maxI (wsl ns) := maxI_ge (List.mem_map.mpr ⟨i, List.mem_range.mpr hi, rfl⟩)
      omega
    have k19 := q19 h h1 cs4 a d pd s4 s5 s6 s8 s9 s10' s13 hm hd
    refine fin (ρ := [SV.bor cs4, .val (nt ns), .val (.int (least ns)), .val (tp (own ns)), s4, s5, s6, .val pd, s8, s9, s10', .val (.int (a : Int)), .val (tp (some' ns)), s13, .val (.int d), .val (nt (moved ns d)), .un, .un].tail) ?_
    unfold B__law_is_right
    rw [seq_nx k1, seq_nx k2, seq_nx k3, seq_nx k4, seq_nx k5, seq_nx k6, seq_nx k7, seq_nx k8, seq_nx k9, seq_nx k10, seq_nx k11, seq_nx k12, seq_nx k13, seq_nx k14, seq_nx k15, seq_nx k16, seq_nx k17, seq_nx k18, k19]
    rfl
theorem law_ok (ns : List Int) (hl : ns.length ≤ 63) : V_law ns = some (.dat (.bool true)) := by
  obtain ⟨cs, e1, hh⟩ := lhand_ok ns hl
  have k1 : sSet 1 (eCallS V__law_hand 0) [.scr ns, .un, .un] = some (.nx, [.scr ns, .own cs, .un]) := by
    rw [x_sSet]
    have : eCallS V__law_hand 0 [.scr ns, .un, .un] = some (.frL cs, [.scr ns, .un, .un]) := by
      show (match V__law_hand ns with | some h => some (h, _) | none => none) = _
      rw [e1]
    rw [this]; simp
  obtain ⟨ρ', k2, cs', s2, _, _, rfl⟩ := forD_all (g := gN 2) (fb := B_law_1) (items := rng 0 4) (ρ := [.scr ns, .own cs, .un])
    (fun _ ρ => ∃ cs s2, HandOk cs ∧ Fr s2 ∧ ρ = [.scr ns, .own cs, s2]) ⟨cs, .un, hh, Fr.un, rfl⟩ fun i d ρ e ⟨cs, s2, hh, f2, eρ⟩ => by
      subst eρ
      obtain ⟨cs', e2, hh'⟩ := right_ok hh
      exact ⟨[.scr ns, .own cs, .val d], [.scr ns, .own cs', .val d], by simp [f2], by simp [e2], cs', _, hh', Fr.val d, rfl⟩
  have e4 : smallI 4 = true := smallI_nat (n := 4) (by omega)
  have k3 : sFor (eRng1 (eC (.int 4))) (gN 2) B_law_1 [.scr ns, .own cs, .un] = some (.nx, [.scr ns, .own cs', s2]) := by
    simp [e4, k2]
  have k4 : B_law [.scr ns, .un, .un] = some (.rt (.dat (.bool true)), [.scr ns, .own cs', s2]) := by
    unfold B_law
    rw [seq_nx k1, seq_nx k3]
    simp
  unfold V_law runS
  rw [show (SV.scr ns :: List.replicate (3 - 1) SV.un) = [.scr ns, .un, .un] from rfl, k4]
end K07
set_option Elab.async false
set_option linter.all false
set_option maxRecDepth 100000
namespace K07
open PySem PySem.Spec PyProof.Rows L2 DL
theorem isi_of {K : PySem.W.Frag} (T : String) (h : ∀ d : PD, PySem.W.kitOne K (.type (tyD d)) (.type T) = some (isiD d T)) : IsiOk K T := h
set_option maxHeartbeats 0 in
theorem all_mk {l : PySem.W.OpenLaw} {w : World} {K : PySem.W.Frag} {h : Heap} {mg : Str → Option Value} {fa : Addr} (X : K.In h) (G : h.Ns mainGlobals mg) (hfa : mg "law" = some (.ref fa))
    {f0 : Addr} {od0 an0 : Option Addr} {sl0 : Array (Option Value)} {oc0 kV0 dc0 pm0 cd0 ct0 : Value}
    {f1 : Addr} {od1 an1 : Option Addr} {sl1 : Array (Option Value)} {oc1 kV1 dc1 pm1 cd1 ct1 : Value}
    {f2 : Addr} {od2 an2 : Option Addr} {sl2 : Array (Option Value)} {oc2 kV2 dc2 pm2 cd2 ct2 : Value}
    {f3 : Addr} {od3 an3 : Option Addr} {sl3 : Array (Option Value)} {oc3 kV3 dc3 pm3 cd3 ct3 : Value}
    {f4 : Addr} {od4 an4 : Option Addr} {sl4 : Array (Option Value)} {oc4 kV4 dc4 pm4 cd4 ct4 : Value}
    {f5 : Addr} {od5 an5 : Option Addr} {sl5 : Array (Option Value)} {oc5 kV5 dc5 pm5 cd5 ct5 : Value}
    {f6 : Addr} {od6 an6 : Option Addr} {sl6 : Array (Option Value)} {oc6 kV6 dc6 pm6 cd6 ct6 : Value}
    {f7 : Addr} {od7 an7 : Option Addr} {sl7 : Array (Option Value)} {oc7 kV7 dc7 pm7 cd7 ct7 : Value}
    {f8 : Addr} {od8 an8 : Option Addr} {sl8 : Array (Option Value)} {oc8 kV8 dc8 pm8 cd8 ct8 : Value}
    {f9 : Addr} {od9 an9 : Option Addr} {sl9 : Array (Option Value)} {oc9 kV9 dc9 pm9 cd9 ct9 : Value}
    {f10 : Addr} {od10 an10 : Option Addr} {sl10 : Array (Option Value)} {oc10 kV10 dc10 pm10 cd10 ct10 : Value}
    {f11 : Addr} {od11 an11 : Option Addr} {sl11 : Array (Option Value)} {oc11 kV11 dc11 pm11 cd11 ct11 : Value}
    {f12 : Addr} {od12 an12 : Option Addr} {sl12 : Array (Option Value)} {oc12 kV12 dc12 pm12 cd12 ct12 : Value}
    {f13 : Addr} {od13 an13 : Option Addr} {sl13 : Array (Option Value)} {oc13 kV13 dc13 pm13 cd13 ct13 : Value}
    {f14 : Addr} {od14 an14 : Option Addr} {sl14 : Array (Option Value)} {oc14 kV14 dc14 pm14 cd14 ct14 : Value}
    {f15 : Addr} {od15 an15 : Option Addr} {sl15 : Array (Option Value)} {oc15 kV15 dc15 pm15 cd15 ct15 : Value}
    {f16 : Addr} {od16 an16 : Option Addr} {sl16 : Array (Option Value)} {oc16 kV16 dc16 pm16 cd16 ct16 : Value}
    {f17 : Addr} {od17 an17 : Option Addr} {sl17 : Array (Option Value)} {oc17 kV17 dc17 pm17 cd17 ct17 : Value}
    {f18 : Addr} {od18 an18 : Option Addr} {sl18 : Array (Option Value)} {oc18 kV18 dc18 pm18 cd18 ct18 : Value}
    {f19 : Addr} {od19 an19 : Option Addr} {sl19 : Array (Option Value)} {oc19 kV19 dc19 pm19 cd19 ct19 : Value}
    {f20 : Addr} {od20 an20 : Option Addr} {sl20 : Array (Option Value)} {oc20 kV20 dc20 pm20 cd20 ct20 : Value}
    {f21 : Addr} {od21 an21 : Option Addr} {sl21 : Array (Option Value)} {oc21 kV21 dc21 pm21 cd21 ct21 : Value}
    {f22 : Addr} {od22 an22 : Option Addr} {sl22 : Array (Option Value)} {oc22 kV22 dc22 pm22 cd22 ct22 : Value}
    {f23 : Addr} {od23 an23 : Option Addr} {sl23 : Array (Option Value)} {oc23 kV23 dc23 pm23 cd23 ct23 : Value}
    {f24 : Addr} {od24 an24 : Option Addr} {sl24 : Array (Option Value)} {oc24 kV24 dc24 pm24 cd24 ct24 : Value}
    {f25 : Addr} {od25 an25 : Option Addr} {sl25 : Array (Option Value)} {oc25 kV25 dc25 pm25 cd25 ct25 : Value}
    {f26 : Addr} {od26 an26 : Option Addr} {sl26 : Array (Option Value)} {oc26 kV26 dc26 pm26 cd26 ct26 : Value}
    {f27 : Addr} {od27 an27 : Option Addr} {sl27 : Array (Option Value)} {oc27 kV27 dc27 pm27 cd27 ct27 : Value}
    {f28 : Addr} {od28 an28 : Option Addr} {sl28 : Array (Option Value)} {oc28 kV28 dc28 pm28 cd28 ct28 : Value}
    {f29 : Addr} {od29 an29 : Option Addr} {sl29 : Array (Option Value)} {oc29 kV29 dc29 pm29 cd29 ct29 : Value}
    {f30 : Addr} {od30 an30 : Option Addr} {sl30 : Array (Option Value)} {oc30 kV30 dc30 pm30 cd30 ct30 : Value}
    {f31 : Addr} {od31 an31 : Option Addr} {sl31 : Array (Option Value)} {oc31 kV31 dc31 pm31 cd31 ct31 : Value}
    {f32 : Addr} {od32 an32 : Option Addr} {sl32 : Array (Option Value)} {oc32 kV32 dc32 pm32 cd32 ct32 : Value}
    {f33 : Addr} {od33 an33 : Option Addr} {sl33 : Array (Option Value)} {oc33 kV33 dc33 pm33 cd33 ct33 : Value}
    {f34 : Addr} {od34 an34 : Option Addr} {sl34 : Array (Option Value)} {oc34 kV34 dc34 pm34 cd34 ct34 : Value}
    {tk0 : Tok}
    {tk1 : Tok}
    {tk2 : Tok}
    (a0 : PySem.W.nsIn K mainGlobals "_law_hand" = some (some (.ref f0))) (l0 : K.lookup f0 = some ⟨oc0, od0, .func (PySem.W.fnOf "_law_hand" "_law_hand" (defArgs (topS 31)) (defBody (topS 31)) (defScope (topS 31)) .none kV0 dc0 pm0 an0 cd0 ct0), sl0⟩) (c0 : PySem.W.codeIn K cd0 "_law_hand" = true) (k0 : PySem.W.keepIn K (.ref f0) = true)
    (a1 : PySem.W.nsIn K mainGlobals "_law_draw" = some (some (.ref f1))) (l1 : K.lookup f1 = some ⟨oc1, od1, .func (PySem.W.fnOf "_law_draw" "_law_draw" (defArgs (topS 32)) (defBody (topS 32)) (defScope (topS 32)) .none kV1 dc1 pm1 an1 cd1 ct1), sl1⟩) (c1 : PySem.W.codeIn K cd1 "_law_draw" = true) (k1 : PySem.W.keepIn K (.ref f1) = true)
    (a2 : PySem.W.nsIn K mainGlobals "_law_any" = some (some (.ref f2))) (l2 : K.lookup f2 = some ⟨oc2, od2, .func (PySem.W.fnOf "_law_any" "_law_any" (defArgs (topS 33)) (defBody (topS 33)) (defScope (topS 33)) .none kV2 dc2 pm2 an2 cd2 ct2), sl2⟩) (c2 : PySem.W.codeIn K cd2 "_law_any" = true) (k2 : PySem.W.keepIn K (.ref f2) = true)
    (a3 : PySem.W.nsIn K mainGlobals "_law_notes" = some (some (.ref f3))) (l3 : K.lookup f3 = some ⟨oc3, od3, .func (PySem.W.fnOf "_law_notes" "_law_notes" (defArgs (topS 35)) (defBody (topS 35)) (defScope (topS 35)) .none kV3 dc3 pm3 an3 cd3 ct3), sl3⟩) (c3 : PySem.W.codeIn K cd3 "_law_notes" = true) (k3 : PySem.W.keepIn K (.ref f3) = true)
    (a4 : PySem.W.nsIn K mainGlobals "_law_ahead" = some (some (.ref f4))) (l4 : K.lookup f4 = some ⟨oc4, od4, .func (PySem.W.fnOf "_law_ahead" "_law_ahead" (defArgs (topS 36)) (defBody (topS 36)) (defScope (topS 36)) .none kV4 dc4 pm4 an4 cd4 ct4), sl4⟩) (c4 : PySem.W.codeIn K cd4 "_law_ahead" = true) (k4 : PySem.W.keepIn K (.ref f4) = true)
    (a5 : PySem.W.nsIn K mainGlobals "_law_over" = some (some (.ref f5))) (l5 : K.lookup f5 = some ⟨oc5, od5, .func (PySem.W.fnOf "_law_over" "_law_over" (defArgs (topS 37)) (defBody (topS 37)) (defScope (topS 37)) .none kV5 dc5 pm5 an5 cd5 ct5), sl5⟩) (c5 : PySem.W.codeIn K cd5 "_law_over" = true) (k5 : PySem.W.keepIn K (.ref f5) = true)
    (a6 : PySem.W.nsIn K mainGlobals "_law_least" = some (some (.ref f6))) (l6 : K.lookup f6 = some ⟨oc6, od6, .func (PySem.W.fnOf "_law_least" "_law_least" (defArgs (topS 38)) (defBody (topS 38)) (defScope (topS 38)) .none kV6 dc6 pm6 an6 cd6 ct6), sl6⟩) (c6 : PySem.W.codeIn K cd6 "_law_least" = true) (k6 : PySem.W.keepIn K (.ref f6) = true)
    (a7 : PySem.W.nsIn K mainGlobals "_law_is" = some (some (.ref f7))) (l7 : K.lookup f7 = some ⟨oc7, od7, .func (PySem.W.fnOf "_law_is" "_law_is" (defArgs (topS 34)) (defBody (topS 34)) (defScope (topS 34)) .none kV7 dc7 pm7 an7 cd7 ct7), sl7⟩) (c7 : PySem.W.codeIn K cd7 "_law_is" = true) (k7 : PySem.W.keepIn K (.ref f7) = true)
    (a8 : PySem.W.nsIn K mainGlobals "_law_off" = some (some (.ref f8))) (l8 : K.lookup f8 = some ⟨oc8, od8, .func (PySem.W.fnOf "_law_off" "_law_off" (defArgs (topS 40)) (defBody (topS 40)) (defScope (topS 40)) .none kV8 dc8 pm8 an8 cd8 ct8), sl8⟩) (c8 : PySem.W.codeIn K cd8 "_law_off" = true) (k8 : PySem.W.keepIn K (.ref f8) = true)
    (a9 : PySem.W.nsIn K mainGlobals "is_tuple_of" = some (some (.ref f9))) (l9 : K.lookup f9 = some ⟨oc9, od9, .func (PySem.W.fnOf "is_tuple_of" "is_tuple_of" (defArgs (topS 3)) (defBody (topS 3)) (defScope (topS 3)) .none kV9 dc9 pm9 an9 cd9 ct9), sl9⟩) (c9 : PySem.W.codeIn K cd9 "is_tuple_of" = true) (k9 : PySem.W.keepIn K (.ref f9) = true)
    (a10 : PySem.W.nsIn K mainGlobals "is_integer" = some (some (.ref f10))) (l10 : K.lookup f10 = some ⟨oc10, od10, .func (PySem.W.fnOf "is_integer" "is_integer" (defArgs (topS 1)) (defBody (topS 1)) (defScope (topS 1)) .none kV10 dc10 pm10 an10 cd10 ct10), sl10⟩) (c10 : PySem.W.codeIn K cd10 "is_integer" = true) (k10 : PySem.W.keepIn K (.ref f10) = true)
    (a11 : PySem.W.nsIn K mainGlobals "is_within" = some (some (.ref f11))) (l11 : K.lookup f11 = some ⟨oc11, od11, .func (PySem.W.fnOf "is_within" "is_within" (defArgs (topS 2)) (defBody (topS 2)) (defScope (topS 2)) .none kV11 dc11 pm11 an11 cd11 ct11), sl11⟩) (c11 : PySem.W.codeIn K cd11 "is_within" = true) (k11 : PySem.W.keepIn K (.ref f11) = true)
    (a12 : PySem.W.nsIn K mainGlobals "check_notes" = some (some (.ref f12))) (l12 : K.lookup f12 = some ⟨oc12, od12, .func (PySem.W.fnOf "check_notes" "check_notes" (defArgs (topS 12)) (defBody (topS 12)) (defScope (topS 12)) .none kV12 dc12 pm12 an12 cd12 ct12), sl12⟩) (c12 : PySem.W.codeIn K cd12 "check_notes" = true) (k12 : PySem.W.keepIn K (.ref f12) = true)
    (a13 : PySem.W.nsIn K mainGlobals "are_spots" = some (some (.ref f13))) (l13 : K.lookup f13 = some ⟨oc13, od13, .func (PySem.W.fnOf "are_spots" "are_spots" (defArgs (topS 13)) (defBody (topS 13)) (defScope (topS 13)) .none kV13 dc13 pm13 an13 cd13 ct13), sl13⟩) (c13 : PySem.W.codeIn K cd13 "are_spots" = true) (k13 : PySem.W.keepIn K (.ref f13) = true)
    (a14 : PySem.W.nsIn K mainGlobals "raw_off" = some (some (.ref f14))) (l14 : K.lookup f14 = some ⟨oc14, od14, .func (PySem.W.fnOf "raw_off" "raw_off" (defArgs (topS 15)) (defBody (topS 15)) (defScope (topS 15)) .none kV14 dc14 pm14 an14 cd14 ct14), sl14⟩) (c14 : PySem.W.codeIn K cd14 "raw_off" = true) (k14 : PySem.W.keepIn K (.ref f14) = true)
    (a15 : PySem.W.nsIn K mainGlobals "off" = some (some (.ref f15))) (l15 : K.lookup f15 = some ⟨oc15, od15, .func (PySem.W.fnOf "off" "off" (defArgs (topS 16)) (defBody (topS 16)) (defScope (topS 16)) .none kV15 dc15 pm15 an15 cd15 ct15), sl15⟩) (c15 : PySem.W.codeIn K cd15 "off" = true) (k15 : PySem.W.keepIn K (.ref f15) = true)
    (a16 : PySem.W.nsIn K mainGlobals "heights_ahead" = some (some (.ref f16))) (l16 : K.lookup f16 = some ⟨oc16, od16, .func (PySem.W.fnOf "heights_ahead" "heights_ahead" (defArgs (topS 17)) (defBody (topS 17)) (defScope (topS 17)) .none kV16 dc16 pm16 an16 cd16 ct16), sl16⟩) (c16 : PySem.W.codeIn K cd16 "heights_ahead" = true) (k16 : PySem.W.keepIn K (.ref f16) = true)
    (a17 : PySem.W.nsIn K mainGlobals "top_excess" = some (some (.ref f17))) (l17 : K.lookup f17 = some ⟨oc17, od17, .func (PySem.W.fnOf "top_excess" "top_excess" (defArgs (topS 19)) (defBody (topS 19)) (defScope (topS 19)) .none kV17 dc17 pm17 an17 cd17 ct17), sl17⟩) (c17 : PySem.W.codeIn K cd17 "top_excess" = true) (k17 : PySem.W.keepIn K (.ref f17) = true)
    (a18 : PySem.W.nsIn K mainGlobals "excess_of" = some (some (.ref f18))) (l18 : K.lookup f18 = some ⟨oc18, od18, .func (PySem.W.fnOf "excess_of" "excess_of" (defArgs (topS 18)) (defBody (topS 18)) (defScope (topS 18)) .none kV18 dc18 pm18 an18 cd18 ct18), sl18⟩) (c18 : PySem.W.codeIn K cd18 "excess_of" = true) (k18 : PySem.W.keepIn K (.ref f18) = true)
    (a19 : PySem.W.nsIn K mainGlobals "raw_least" = some (some (.ref f19))) (l19 : K.lookup f19 = some ⟨oc19, od19, .func (PySem.W.fnOf "raw_least" "raw_least" (defArgs (topS 20)) (defBody (topS 20)) (defScope (topS 20)) .none kV19 dc19 pm19 an19 cd19 ct19), sl19⟩) (c19 : PySem.W.codeIn K cd19 "raw_least" = true) (k19 : PySem.W.keepIn K (.ref f19) = true)
    (a20 : PySem.W.nsIn K mainGlobals "spots" = some (some (.ref f20))) (l20 : K.lookup f20 = some ⟨oc20, od20, .func (PySem.W.fnOf "spots" "spots" (defArgs (topS 22)) (defBody (topS 22)) (defScope (topS 22)) .none kV20 dc20 pm20 an20 cd20 ct20), sl20⟩) (c20 : PySem.W.codeIn K cd20 "spots" = true) (k20 : PySem.W.keepIn K (.ref f20) = true)
    (a21 : PySem.W.nsIn K mainGlobals "least_off" = some (some (.ref f21))) (l21 : K.lookup f21 = some ⟨oc21, od21, .func (PySem.W.fnOf "least_off" "least_off" (defArgs (topS 21)) (defBody (topS 21)) (defScope (topS 21)) .none kV21 dc21 pm21 an21 cd21 ct21), sl21⟩) (c21 : PySem.W.codeIn K cd21 "least_off" = true) (k21 : PySem.W.keepIn K (.ref f21) = true)
    (a22 : PySem.W.nsIn K mainGlobals "is_spots" = some (some (.ref f22))) (l22 : K.lookup f22 = some ⟨oc22, od22, .func (PySem.W.fnOf "is_spots" "is_spots" (defArgs (topS 14)) (defBody (topS 14)) (defScope (topS 14)) .none kV22 dc22 pm22 an22 cd22 ct22), sl22⟩) (c22 : PySem.W.codeIn K cd22 "is_spots" = true) (k22 : PySem.W.keepIn K (.ref f22) = true)
    (a23 : PySem.W.nsIn K mainGlobals "is_press" = some (some (.ref f23))) (l23 : K.lookup f23 = some ⟨oc23, od23, .func (PySem.W.fnOf "is_press" "is_press" (defArgs (topS 23)) (defBody (topS 23)) (defScope (topS 23)) .none kV23 dc23 pm23 an23 cd23 ct23), sl23⟩) (c23 : PySem.W.codeIn K cd23 "is_press" = true) (k23 : PySem.W.keepIn K (.ref f23) = true)
    (a24 : PySem.W.nsIn K mainGlobals "pressing" = some (some (.ref f24))) (l24 : K.lookup f24 = some ⟨oc24, od24, .func (PySem.W.fnOf "pressing" "pressing" (defArgs (topS 24)) (defBody (topS 24)) (defScope (topS 24)) .none kV24 dc24 pm24 an24 cd24 ct24), sl24⟩) (c24 : PySem.W.codeIn K cd24 "pressing" = true) (k24 : PySem.W.keepIn K (.ref f24) = true)
    (a25 : PySem.W.nsIn K mainGlobals "_law_presses" = some (some (.ref f25))) (l25 : K.lookup f25 = some ⟨oc25, od25, .func (PySem.W.fnOf "_law_presses" "_law_presses" (defArgs (topS 41)) (defBody (topS 41)) (defScope (topS 41)) .none kV25 dc25 pm25 an25 cd25 ct25), sl25⟩) (c25 : PySem.W.codeIn K cd25 "_law_presses" = true) (k25 : PySem.W.keepIn K (.ref f25) = true)
    (a26 : PySem.W.nsIn K mainGlobals "is_pressing" = some (some (.ref f26))) (l26 : K.lookup f26 = some ⟨oc26, od26, .func (PySem.W.fnOf "is_pressing" "is_pressing" (defArgs (topS 25)) (defBody (topS 25)) (defScope (topS 25)) .none kV26 dc26 pm26 an26 cd26 ct26), sl26⟩) (c26 : PySem.W.codeIn K cd26 "is_pressing" = true) (k26 : PySem.W.keepIn K (.ref f26) = true)
    (a27 : PySem.W.nsIn K mainGlobals "shifted_wishes" = some (some (.ref f27))) (l27 : K.lookup f27 = some ⟨oc27, od27, .func (PySem.W.fnOf "shifted_wishes" "shifted_wishes" (defArgs (topS 26)) (defBody (topS 26)) (defScope (topS 26)) .none kV27 dc27 pm27 an27 cd27 ct27), sl27⟩) (c27 : PySem.W.codeIn K cd27 "shifted_wishes" = true) (k27 : PySem.W.keepIn K (.ref f27) = true)
    (a28 : PySem.W.nsIn K mainGlobals "sum_rows" = some (some (.ref f28))) (l28 : K.lookup f28 = some ⟨oc28, od28, .func (PySem.W.fnOf "sum_rows" "sum_rows" (defArgs (topS 27)) (defBody (topS 27)) (defScope (topS 27)) .none kV28 dc28 pm28 an28 cd28 ct28), sl28⟩) (c28 : PySem.W.codeIn K cd28 "sum_rows" = true) (k28 : PySem.W.keepIn K (.ref f28) = true)
    (a29 : PySem.W.nsIn K mainGlobals "sum_spots" = some (some (.ref f29))) (l29 : K.lookup f29 = some ⟨oc29, od29, .func (PySem.W.fnOf "sum_spots" "sum_spots" (defArgs (topS 29)) (defBody (topS 29)) (defScope (topS 29)) .none kV29 dc29 pm29 an29 cd29 ct29), sl29⟩) (c29 : PySem.W.codeIn K cd29 "sum_spots" = true) (k29 : PySem.W.keepIn K (.ref f29) = true)
    (a30 : PySem.W.nsIn K mainGlobals "least_sum" = some (some (.ref f30))) (l30 : K.lookup f30 = some ⟨oc30, od30, .func (PySem.W.fnOf "least_sum" "least_sum" (defArgs (topS 28)) (defBody (topS 28)) (defScope (topS 28)) .none kV30 dc30 pm30 an30 cd30 ct30), sl30⟩) (c30 : PySem.W.codeIn K cd30 "least_sum" = true) (k30 : PySem.W.keepIn K (.ref f30) = true)
    (a31 : PySem.W.nsIn K mainGlobals "_law_sum" = some (some (.ref f31))) (l31 : K.lookup f31 = some ⟨oc31, od31, .func (PySem.W.fnOf "_law_sum" "_law_sum" (defArgs (topS 42)) (defBody (topS 42)) (defScope (topS 42)) .none kV31 dc31 pm31 an31 cd31 ct31), sl31⟩) (c31 : PySem.W.codeIn K cd31 "_law_sum" = true) (k31 : PySem.W.keepIn K (.ref f31) = true)
    (a32 : PySem.W.nsIn K mainGlobals "_law_are_spots" = some (some (.ref f32))) (l32 : K.lookup f32 = some ⟨oc32, od32, .func (PySem.W.fnOf "_law_are_spots" "_law_are_spots" (defArgs (topS 39)) (defBody (topS 39)) (defScope (topS 39)) .none kV32 dc32 pm32 an32 cd32 ct32), sl32⟩) (c32 : PySem.W.codeIn K cd32 "_law_are_spots" = true) (k32 : PySem.W.keepIn K (.ref f32) = true)
    (a33 : PySem.W.nsIn K mainGlobals "_law_is_right" = some (some (.ref f33))) (l33 : K.lookup f33 = some ⟨oc33, od33, .func (PySem.W.fnOf "_law_is_right" "_law_is_right" (defArgs (topS 43)) (defBody (topS 43)) (defScope (topS 43)) .none kV33 dc33 pm33 an33 cd33 ct33), sl33⟩) (c33 : PySem.W.codeIn K cd33 "_law_is_right" = true) (k33 : PySem.W.keepIn K (.ref f33) = true)
    (a34 : PySem.W.nsIn K mainGlobals "law" = some (some (.ref f34))) (l34 : K.lookup f34 = some ⟨oc34, od34, .func (PySem.W.fnOf "law" "law" (defArgs (topS 44)) (defBody (topS 44)) (defScope (topS 44)) .none kV34 dc34 pm34 an34 cd34 ct34), sl34⟩) (c34 : PySem.W.codeIn K cd34 "law" = true) (k34 : PySem.W.keepIn K (.ref f34) = true)
    (z0 : PySem.W.nsIn K mainGlobals "abs" = some none)
    (z1 : PySem.W.nsIn K mainGlobals "all" = some none)
    (z2 : PySem.W.nsIn K mainGlobals "any" = some none)
    (z3 : PySem.W.nsIn K mainGlobals "bool" = some none)
    (z4 : PySem.W.nsIn K mainGlobals "int" = some none)
    (z5 : PySem.W.nsIn K mainGlobals "isinstance" = some none)
    (z6 : PySem.W.nsIn K mainGlobals "len" = some none)
    (z7 : PySem.W.nsIn K mainGlobals "list" = some none)
    (z8 : PySem.W.nsIn K mainGlobals "max" = some none)
    (z9 : PySem.W.nsIn K mainGlobals "min" = some none)
    (z10 : PySem.W.nsIn K mainGlobals "range" = some none)
    (z11 : PySem.W.nsIn K mainGlobals "repr" = some none)
    (z12 : PySem.W.nsIn K mainGlobals "set" = some none)
    (z13 : PySem.W.nsIn K mainGlobals "sorted" = some none)
    (z14 : PySem.W.nsIn K mainGlobals "sum" = some none)
    (z15 : PySem.W.nsIn K mainGlobals "tuple" = some none)
    (z16 : PySem.W.nsIn K mainGlobals "zip" = some none)
    (y0 : PySem.W.nsIn K mainGlobals "MOST_HEIGHT" = some (some (.int 50 tk0)))
    (y1 : PySem.W.nsIn K mainGlobals "MOST_NOTES" = some (some (.int 30 tk1)))
    (y2 : PySem.W.nsIn K mainGlobals "MOST_WISH" = some (some (.int 1000 tk2))) :
    ∃ fd : FuncData, (∀ (s : Shared) (v : Value), BindsTo s fd ⟨[v], []⟩ [("script", v)]) ∧ ∀ base : Heap, K.In base → base.Ns mainGlobals mg → FnG l.prog w K mg base 6 fa fd ["script"] (spS K V_law) := by
  have e := hfa.symm.trans (PySem.W.mg_of X G a34)
  cases e
  have C : Cn K mg := { n_abs := PySem.W.mg_none_of X G z0, n_all := PySem.W.mg_none_of X G z1, n_any := PySem.W.mg_none_of X G z2, n_bool := PySem.W.mg_none_of X G z3, n_int := PySem.W.mg_none_of X G z4, n_isinstance := PySem.W.mg_none_of X G z5, n_len := PySem.W.mg_none_of X G z6, n_list := PySem.W.mg_none_of X G z7, n_max := PySem.W.mg_none_of X G z8, n_min := PySem.W.mg_none_of X G z9, n_range := PySem.W.mg_none_of X G z10, n_repr := PySem.W.mg_none_of X G z11, n_set := PySem.W.mg_none_of X G z12, n_sorted := PySem.W.mg_none_of X G z13, n_sum := PySem.W.mg_none_of X G z14, n_tuple := PySem.W.mg_none_of X G z15, n_zip := PySem.W.mg_none_of X G z16, c_MOST_HEIGHT := ⟨_, PySem.W.mg_of X G y0⟩, c_MOST_NOTES := ⟨_, PySem.W.mg_of X G y1⟩, c_MOST_WISH := ⟨_, PySem.W.mg_of X G y2⟩, i_bool := isi_of "bool" (by intro d; cases d <;> rfl), i_int := isi_of "int" (by intro d; cases d <;> rfl), i_tuple := isi_of "tuple" (by intro d; cases d <;> rfl) }
  have D0 : DefAt K mg "_law_hand" ["script"] (topS 31) := ⟨_, _, PySem.W.mg_of X G a0, fun_mk l0 c0 k0, (fun_mk l0 c0 k0).binds (ps := ["script"]) fun _ _ _ _ _ _ us hl => match us, hl with | [_], _ => rfl⟩
  have D1 : DefAt K mg "_law_draw" ["hand", "many"] (topS 32) := ⟨_, _, PySem.W.mg_of X G a1, fun_mk l1 c1 k1, (fun_mk l1 c1 k1).binds (ps := ["hand", "many"]) fun _ _ _ _ _ _ us hl => match us, hl with | [_, _], _ => rfl⟩
  have D2 : DefAt K mg "_law_any" ["hand", "some"] (topS 33) := ⟨_, _, PySem.W.mg_of X G a2, fun_mk l2 c2 k2, (fun_mk l2 c2 k2).binds (ps := ["hand", "some"]) fun _ _ _ _ _ _ us hl => match us, hl with | [_, _], _ => rfl⟩
  have D3 : DefAt K mg "_law_notes" ["hand"] (topS 35) := ⟨_, _, PySem.W.mg_of X G a3, fun_mk l3 c3 k3, (fun_mk l3 c3 k3).binds (ps := ["hand"]) fun _ _ _ _ _ _ us hl => match us, hl with | [_], _ => rfl⟩
  have D4 : DefAt K mg "_law_ahead" ["notes"] (topS 36) := ⟨_, _, PySem.W.mg_of X G a4, fun_mk l4 c4 k4, (fun_mk l4 c4 k4).binds (ps := ["notes"]) fun _ _ _ _ _ _ us hl => match us, hl with | [_], _ => rfl⟩
  have D5 : DefAt K mg "_law_over" ["notes", "ahead", "first", "last"] (topS 37) := ⟨_, _, PySem.W.mg_of X G a5, fun_mk l5 c5 k5, (fun_mk l5 c5 k5).binds (ps := ["notes", "ahead", "first", "last"]) fun _ _ _ _ _ _ us hl => match us, hl with | [_, _, _, _], _ => rfl⟩
  have D6 : DefAt K mg "_law_least" ["notes"] (topS 38) := ⟨_, _, PySem.W.mg_of X G a6, fun_mk l6 c6 k6, (fun_mk l6 c6 k6).binds (ps := ["notes"]) fun _ _ _ _ _ _ us hl => match us, hl with | [_], _ => rfl⟩
  have D7 : DefAt K mg "_law_is" ["told", "due"] (topS 34) := ⟨_, _, PySem.W.mg_of X G a7, fun_mk l7 c7 k7, (fun_mk l7 c7 k7).binds (ps := ["told", "due"]) fun _ _ _ _ _ _ us hl => match us, hl with | [_, _], _ => rfl⟩
  have D8 : DefAt K mg "_law_off" ["notes", "some"] (topS 40) := ⟨_, _, PySem.W.mg_of X G a8, fun_mk l8 c8 k8, (fun_mk l8 c8 k8).binds (ps := ["notes", "some"]) fun _ _ _ _ _ _ us hl => match us, hl with | [_, _], _ => rfl⟩
  have D9 : DefAt K mg "is_tuple_of" ["thing", "size"] (topS 3) := ⟨_, _, PySem.W.mg_of X G a9, fun_mk l9 c9 k9, (fun_mk l9 c9 k9).binds (ps := ["thing", "size"]) fun _ _ _ _ _ _ us hl => match us, hl with | [_, _], _ => rfl⟩
  have D10 : DefAt K mg "is_integer" ["thing"] (topS 1) := ⟨_, _, PySem.W.mg_of X G a10, fun_mk l10 c10 k10, (fun_mk l10 c10 k10).binds (ps := ["thing"]) fun _ _ _ _ _ _ us hl => match us, hl with | [_], _ => rfl⟩
  have D11 : DefAt K mg "is_within" ["thing", "least", "most"] (topS 2) := ⟨_, _, PySem.W.mg_of X G a11, fun_mk l11 c11 k11, (fun_mk l11 c11 k11).binds (ps := ["thing", "least", "most"]) fun _ _ _ _ _ _ us hl => match us, hl with | [_, _, _], _ => rfl⟩
  have D12 : DefAt K mg "check_notes" ["notes"] (topS 12) := ⟨_, _, PySem.W.mg_of X G a12, fun_mk l12 c12 k12, (fun_mk l12 c12 k12).binds (ps := ["notes"]) fun _ _ _ _ _ _ us hl => match us, hl with | [_], _ => rfl⟩
  have D13 : DefAt K mg "are_spots" ["notes", "thing"] (topS 13) := ⟨_, _, PySem.W.mg_of X G a13, fun_mk l13 c13 k13, (fun_mk l13 c13 k13).binds (ps := ["notes", "thing"]) fun _ _ _ _ _ _ us hl => match us, hl with | [_, _], _ => rfl⟩
  have D14 : DefAt K mg "raw_off" ["notes", "spots"] (topS 15) := ⟨_, _, PySem.W.mg_of X G a14, fun_mk l14 c14 k14, (fun_mk l14 c14 k14).binds (ps := ["notes", "spots"]) fun _ _ _ _ _ _ us hl => match us, hl with | [_, _], _ => rfl⟩
  have D15 : DefAt K mg "off" ["notes", "spots"] (topS 16) := ⟨_, _, PySem.W.mg_of X G a15, fun_mk l15 c15 k15, (fun_mk l15 c15 k15).binds (ps := ["notes", "spots"]) fun _ _ _ _ _ _ us hl => match us, hl with | [_, _], _ => rfl⟩
  have D16 : DefAt K mg "heights_ahead" ["notes"] (topS 17) := ⟨_, _, PySem.W.mg_of X G a16, fun_mk l16 c16 k16, (fun_mk l16 c16 k16).binds (ps := ["notes"]) fun _ _ _ _ _ _ us hl => match us, hl with | [_], _ => rfl⟩
  have D17 : DefAt K mg "top_excess" ["notes", "last"] (topS 19) := ⟨_, _, PySem.W.mg_of X G a17, fun_mk l17 c17 k17, (fun_mk l17 c17 k17).binds (ps := ["notes", "last"]) fun _ _ _ _ _ _ us hl => match us, hl with | [_, _], _ => rfl⟩
  have D18 : DefAt K mg "excess_of" ["notes", "first", "last"] (topS 18) := ⟨_, _, PySem.W.mg_of X G a18, fun_mk l18 c18 k18, (fun_mk l18 c18 k18).binds (ps := ["notes", "first", "last"]) fun _ _ _ _ _ _ us hl => match us, hl with | [_, _, _], _ => rfl⟩
  have D19 : DefAt K mg "raw_least" ["notes"] (topS 20) := ⟨_, _, PySem.W.mg_of X G a19, fun_mk l19 c19 k19, (fun_mk l19 c19 k19).binds (ps := ["notes"]) fun _ _ _ _ _ _ us hl => match us, hl with | [_], _ => rfl⟩
  have D20 : DefAt K mg "spots" ["notes"] (topS 22) := ⟨_, _, PySem.W.mg_of X G a20, fun_mk l20 c20 k20, (fun_mk l20 c20 k20).binds (ps := ["notes"]) fun _ _ _ _ _ _ us hl => match us, hl with | [_], _ => rfl⟩
  have D21 : DefAt K mg "least_off" ["notes"] (topS 21) := ⟨_, _, PySem.W.mg_of X G a21, fun_mk l21 c21 k21, (fun_mk l21 c21 k21).binds (ps := ["notes"]) fun _ _ _ _ _ _ us hl => match us, hl with | [_], _ => rfl⟩
  have D22 : DefAt K mg "is_spots" ["notes", "thing"] (topS 14) := ⟨_, _, PySem.W.mg_of X G a22, fun_mk l22 c22 k22, (fun_mk l22 c22 k22).binds (ps := ["notes", "thing"]) fun _ _ _ _ _ _ us hl => match us, hl with | [_, _], _ => rfl⟩
  have D23 : DefAt K mg "is_press" ["notes", "least", "first", "last"] (topS 23) := ⟨_, _, PySem.W.mg_of X G a23, fun_mk l23 c23 k23, (fun_mk l23 c23 k23).binds (ps := ["notes", "least", "first", "last"]) fun _ _ _ _ _ _ us hl => match us, hl with | [_, _, _, _], _ => rfl⟩
  have D24 : DefAt K mg "pressing" ["notes"] (topS 24) := ⟨_, _, PySem.W.mg_of X G a24, fun_mk l24 c24 k24, (fun_mk l24 c24 k24).binds (ps := ["notes"]) fun _ _ _ _ _ _ us hl => match us, hl with | [_], _ => rfl⟩
  have D25 : DefAt K mg "_law_presses" ["notes", "least", "thing"] (topS 41) := ⟨_, _, PySem.W.mg_of X G a25, fun_mk l25 c25 k25, (fun_mk l25 c25 k25).binds (ps := ["notes", "least", "thing"]) fun _ _ _ _ _ _ us hl => match us, hl with | [_, _, _], _ => rfl⟩
  have D26 : DefAt K mg "is_pressing" ["notes", "thing"] (topS 25) := ⟨_, _, PySem.W.mg_of X G a26, fun_mk l26 c26 k26, (fun_mk l26 c26 k26).binds (ps := ["notes", "thing"]) fun _ _ _ _ _ _ us hl => match us, hl with | [_, _], _ => rfl⟩
  have D27 : DefAt K mg "shifted_wishes" ["notes"] (topS 26) := ⟨_, _, PySem.W.mg_of X G a27, fun_mk l27 c27 k27, (fun_mk l27 c27 k27).binds (ps := ["notes"]) fun _ _ _ _ _ _ us hl => match us, hl with | [_], _ => rfl⟩
  have D28 : DefAt K mg "sum_rows" ["notes"] (topS 27) := ⟨_, _, PySem.W.mg_of X G a28, fun_mk l28 c28 k28, (fun_mk l28 c28 k28).binds (ps := ["notes"]) fun _ _ _ _ _ _ us hl => match us, hl with | [_], _ => rfl⟩
  have D29 : DefAt K mg "sum_spots" ["notes"] (topS 29) := ⟨_, _, PySem.W.mg_of X G a29, fun_mk l29 c29 k29, (fun_mk l29 c29 k29).binds (ps := ["notes"]) fun _ _ _ _ _ _ us hl => match us, hl with | [_], _ => rfl⟩
  have D30 : DefAt K mg "least_sum" ["notes"] (topS 28) := ⟨_, _, PySem.W.mg_of X G a30, fun_mk l30 c30 k30, (fun_mk l30 c30 k30).binds (ps := ["notes"]) fun _ _ _ _ _ _ us hl => match us, hl with | [_], _ => rfl⟩
  have D31 : DefAt K mg "_law_sum" ["notes"] (topS 42) := ⟨_, _, PySem.W.mg_of X G a31, fun_mk l31 c31 k31, (fun_mk l31 c31 k31).binds (ps := ["notes"]) fun _ _ _ _ _ _ us hl => match us, hl with | [_], _ => rfl⟩
  have D32 : DefAt K mg "_law_are_spots" ["notes", "thing"] (topS 39) := ⟨_, _, PySem.W.mg_of X G a32, fun_mk l32 c32 k32, (fun_mk l32 c32 k32).binds (ps := ["notes", "thing"]) fun _ _ _ _ _ _ us hl => match us, hl with | [_, _], _ => rfl⟩
  have D33 : DefAt K mg "_law_is_right" ["hand"] (topS 43) := ⟨_, _, PySem.W.mg_of X G a33, fun_mk l33 c33 k33, (fun_mk l33 c33 k33).binds (ps := ["hand"]) fun _ _ _ _ _ _ us hl => match us, hl with | [_], _ => rfl⟩
  refine ⟨PySem.W.fnOf "law" "law" (defArgs (topS 44)) (defBody (topS 44)) (defScope (topS 44)) .none kV34 dc34 pm34 an34 cd34 ct34, fun s v => .of_eq rfl, fun base _ _ => ?_⟩
  generalize l.prog = P
  have h__law_hand := w__law_hand (P := P) (w := w) (base := base) C D0
  have h__law_draw := w__law_draw (P := P) (w := w) (base := base) C D1
  have h__law_any := w__law_any (P := P) (w := w) (base := base) C D2 h__law_draw
  have h__law_notes := w__law_notes (P := P) (w := w) (base := base) C D3 h__law_any h__law_draw
  have h__law_ahead := w__law_ahead (P := P) (w := w) (base := base) C D4
  have h__law_over := w__law_over (P := P) (w := w) (base := base) C D5
  have h__law_least := w__law_least (P := P) (w := w) (base := base) C D6 h__law_ahead h__law_over
  have h__law_is := w__law_is (P := P) (w := w) (base := base) C D7
  have h__law_off := w__law_off (P := P) (w := w) (base := base) C D8
  have h_is_tuple_of := w_is_tuple_of (P := P) (w := w) (base := base) C D9
  have h_is_integer := w_is_integer (P := P) (w := w) (base := base) C D10
  have h_is_within := w_is_within (P := P) (w := w) (base := base) C D11 h_is_integer
  have h_check_notes := w_check_notes (P := P) (w := w) (base := base) C D12 h_is_tuple_of h_is_within
  have h_are_spots := w_are_spots (P := P) (w := w) (base := base) C D13 h_is_integer
  have h_raw_off := w_raw_off (P := P) (w := w) (base := base) C D14
  have h_off := w_off (P := P) (w := w) (base := base) C D15 h_check_notes h_are_spots h_raw_off
  have h_heights_ahead := w_heights_ahead (P := P) (w := w) (base := base) C D16
  have h_top_excess := w_top_excess (P := P) (w := w) (base := base) C D17 h_heights_ahead
  have h_excess_of := w_excess_of (P := P) (w := w) (base := base) C D18 h_heights_ahead
  have h_raw_least := w_raw_least (P := P) (w := w) (base := base) C D19 h_top_excess h_excess_of
  have h_spots := w_spots (P := P) (w := w) (base := base) C D20 h_check_notes h_raw_least
  have h_least_off := w_least_off (P := P) (w := w) (base := base) C D21 h_check_notes h_raw_least
  have h_is_spots := w_is_spots (P := P) (w := w) (base := base) C D22 h_check_notes h_are_spots
  have h_is_press := w_is_press (P := P) (w := w) (base := base) C D23 h_top_excess h_excess_of
  have h_pressing := w_pressing (P := P) (w := w) (base := base) C D24 h_check_notes h_raw_least h_is_press
  have h__law_presses := w__law_presses (P := P) (w := w) (base := base) C D25 h__law_ahead h__law_over
  have h_is_pressing := w_is_pressing (P := P) (w := w) (base := base) C D26 h_check_notes h_raw_least h_is_tuple_of h_is_within h_is_press
  have h_shifted_wishes := w_shifted_wishes (P := P) (w := w) (base := base) C D27 h_heights_ahead
  have h_sum_rows := w_sum_rows (P := P) (w := w) (base := base) C D28 h_shifted_wishes
  have h_sum_spots := w_sum_spots (P := P) (w := w) (base := base) C D29 h_check_notes h_sum_rows h_heights_ahead
  have h_least_sum := w_least_sum (P := P) (w := w) (base := base) C D30 h_check_notes h_sum_rows
  have h__law_sum := w__law_sum (P := P) (w := w) (base := base) C D31 h__law_ahead
  have h__law_are_spots := w__law_are_spots (P := P) (w := w) (base := base) C D32
  have h__law_is_right := w__law_is_right (P := P) (w := w) (base := base) C D33 h__law_notes h__law_least h__law_is h__law_off h_off h_spots h_least_off h_is_spots h_pressing h__law_presses h__law_draw h__law_any h_is_pressing h_sum_spots h_least_sum h__law_sum h__law_are_spots
  exact fnS (fun_mk l34 c34 k34) sc_law fun cdv A outer s H hr => b_law C h__law_hand h__law_is_right _ cdv A outer s H hr
end K07
open PySem PySem.W PyProof.Rows
set_option maxHeartbeats 0 in
theorem PySem.Challenge.cw_inkandlead_k07_whole_thirty_notes_in_the_holds : PySem.Challenge.rw_inkandlead_k07_whole_thirty_notes_in_the.Holds := by
  w_on; o_law; k_head; (case hw => w_witness2)
  k_fill
  refine DL.walkG (l := PySem.Challenge.rw_inkandlead_k07_whole_thirty_notes_in_the) (n := 63) (k := 6) (x := "script") (sp := fun w => DL.spS _ K07.V_law) rfl (by decide) rfl ⟨⟨rfl, by decide, by decide⟩, rfl⟩ (fun w h Y => PySem.W.kIn_of Y) ?F (fun _ _ a ns hl _ hS => DL.sp_law hS (K07.law_ok ns hl))
  case F =>
    intro w mg fa h KX G hmg
    refine' K07.all_mk KX G hmg ?a0 ?l0 ?c0 ?k0 ?a1 ?l1 ?c1 ?k1 ?a2 ?l2 ?c2 ?k2 ?a3 ?l3 ?c3 ?k3 ?a4 ?l4 ?c4 ?k4 ?a5 ?l5 ?c5 ?k5 ?a6 ?l6 ?c6 ?k6 ?a7 ?l7 ?c7 ?k7 ?a8 ?l8 ?c8 ?k8 ?a9 ?l9 ?c9 ?k9 ?a10 ?l10 ?c10 ?k10 ?a11 ?l11 ?c11 ?k11 ?a12 ?l12 ?c12 ?k12 ?a13 ?l13 ?c13 ?k13 ?a14 ?l14 ?c14 ?k14 ?a15 ?l15 ?c15 ?k15 ?a16 ?l16 ?c16 ?k16 ?a17 ?l17 ?c17 ?k17 ?a18 ?l18 ?c18 ?k18 ?a19 ?l19 ?c19 ?k19 ?a20 ?l20 ?c20 ?k20 ?a21 ?l21 ?c21 ?k21 ?a22 ?l22 ?c22 ?k22 ?a23 ?l23 ?c23 ?k23 ?a24 ?l24 ?c24 ?k24 ?a25 ?l25 ?c25 ?k25 ?a26 ?l26 ?c26 ?k26 ?a27 ?l27 ?c27 ?k27 ?a28 ?l28 ?c28 ?k28 ?a29 ?l29 ?c29 ?k29 ?a30 ?l30 ?c30 ?k30 ?a31 ?l31 ?c31 ?k31 ?a32 ?l32 ?c32 ?k32 ?a33 ?l33 ?c33 ?k33 ?a34 ?l34 ?c34 ?k34 ?z0 ?z1 ?z2 ?z3 ?z4 ?z5 ?z6 ?z7 ?z8 ?z9 ?z10 ?z11 ?z12 ?z13 ?z14 ?z15 ?z16 ?y0 ?y1 ?y2
    (case a0 => k_is); (case l0 => k_is); (case c0 => k_is); (case k0 => k_is); (case a1 => k_is); (case l1 => k_is); (case c1 => k_is); (case k1 => k_is); (case a2 => k_is); (case l2 => k_is); (case c2 => k_is); (case k2 => k_is); (case a3 => k_is); (case l3 => k_is); (case c3 => k_is); (case k3 => k_is); (case a4 => k_is); (case l4 => k_is); (case c4 => k_is); (case k4 => k_is); (case a5 => k_is); (case l5 => k_is); (case c5 => k_is); (case k5 => k_is); (case a6 => k_is); (case l6 => k_is); (case c6 => k_is); (case k6 => k_is); (case a7 => k_is); (case l7 => k_is); (case c7 => k_is); (case k7 => k_is); (case a8 => k_is); (case l8 => k_is); (case c8 => k_is); (case k8 => k_is); (case a9 => k_is); (case l9 => k_is); (case c9 => k_is); (case k9 => k_is); (case a10 => k_is); (case l10 => k_is); (case c10 => k_is); (case k10 => k_is); (case a11 => k_is); (case l11 => k_is); (case c11 => k_is); (case k11 => k_is); (case a12 => k_is); (case l12 => k_is); (case c12 => k_is); (case k12 => k_is); (case a13 => k_is); (case l13 => k_is); (case c13 => k_is); (case k13 => k_is); (case a14 => k_is); (case l14 => k_is); (case c14 => k_is); (case k14 => k_is); (case a15 => k_is); (case l15 => k_is); (case c15 => k_is); (case k15 => k_is); (case a16 => k_is); (case l16 => k_is); (case c16 => k_is); (case k16 => k_is); (case a17 => k_is); (case l17 => k_is); (case c17 => k_is); (case k17 => k_is); (case a18 => k_is); (case l18 => k_is); (case c18 => k_is); (case k18 => k_is); (case a19 => k_is); (case l19 => k_is); (case c19 => k_is); (case k19 => k_is); (case a20 => k_is); (case l20 => k_is); (case c20 => k_is); (case k20 => k_is); (case a21 => k_is); (case l21 => k_is); (case c21 => k_is); (case k21 => k_is); (case a22 => k_is); (case l22 => k_is); (case c22 => k_is); (case k22 => k_is); (case a23 => k_is); (case l23 => k_is); (case c23 => k_is); (case k23 => k_is); (case a24 => k_is); (case l24 => k_is); (case c24 => k_is); (case k24 => k_is); (case a25 => k_is); (case l25 => k_is); (case c25 => k_is); (case k25 => k_is); (case a26 => k_is); (case l26 => k_is); (case c26 => k_is); (case k26 => k_is); (case a27 => k_is); (case l27 => k_is); (case c27 => k_is); (case k27 => k_is); (case a28 => k_is); (case l28 => k_is); (case c28 => k_is); (case k28 => k_is); (case a29 => k_is); (case l29 => k_is); (case c29 => k_is); (case k29 => k_is); (case a30 => k_is); (case l30 => k_is); (case c30 => k_is); (case k30 => k_is); (case a31 => k_is); (case l31 => k_is); (case c31 => k_is); (case k31 => k_is); (case a32 => k_is); (case l32 => k_is); (case c32 => k_is); (case k32 => k_is); (case a33 => k_is); (case l33 => k_is); (case c33 => k_is); (case k33 => k_is); (case a34 => k_is); (case l34 => k_is); (case c34 => k_is); (case k34 => k_is); (case z0 => k_is); (case z1 => k_is); (case z2 => k_is); (case z3 => k_is); (case z4 => k_is); (case z5 => k_is); (case z6 => k_is); (case z7 => k_is); (case z8 => k_is); (case z9 => k_is); (case z10 => k_is); (case z11 => k_is); (case z12 => k_is); (case z13 => k_is); (case z14 => k_is); (case z15 => k_is); (case z16 => k_is); (case y0 => k_is); (case y1 => k_is); (case y2 => k_is)
