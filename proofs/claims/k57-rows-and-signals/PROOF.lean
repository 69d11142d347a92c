import PyProof.Rows.All
import Wide.All
import OpenK.AllK
import Wide.FinOn
import HandS.ForMost
import HandS.IsInst
import HandS.Flow
import HandS.Style
import HandS.TupAny
import HandS.TupMul
import HandS.Zip
import HandS.SortInts
import HandS.Conv
import HandS.Property
import HandS.SortKw
import PySem.Challenge.RW_holdsalltrees_k57_rows_and_signals
set_option Elab.async false
set_option linter.all false
set_option maxRecDepth 100000
set_option maxHeartbeats 4000000
/-! Fw0: data, what a value denotes, pure mirrors, the judgements over the hand layer. -/
namespace Fw
open PySem PySem.Spec PyProof.Rows L2

/-- a class of the text: where it stands, its attributes in the order of __init__ -/
structure ClsT where
  addr : Addr
  names : List Str
/-- pure data -/
inductive D where
  | non | bl (b : Bool) | int (i : Int) | str (x : Str)
  | tup (ds : List D) | lst (ds : List D) | fl (ds : List D)
  | ins (c : Nat) (ds : List D)
  | dic (ks : List Key) (ds : List D)
  | ty (n : String)

/-- a tuple: tracked, or one of the written part -/
def TupAt (K : PySem.W.Frag) (H : Hp) (a : Addr) (xs : List V) : Prop :=
  H a = some (.tup xs) ∨
    ∃ (o : Obj) (its : Array Value) (n : Nat), K.lookup a = some o ∧ o.cls = .type "tuple" ∧ o.data = .seq its n ∧ its.size ≤ sizeLine ∧ Vals xs its.toList
theorem TupAt.sq {K : PySem.W.Frag} {H : Hp} {a : Addr} {xs : List V} (h : TupAt K H a xs) : SqT K H a xs := h.elim (fun z => .inl (.inl z)) .inr
theorem TupAt.mono {K : PySem.W.Frag} {H H' : Hp} {a : Addr} {xs : List V} (e : Same H H') (h : TupAt K H a xs) : TupAt K H' a xs := h.elim (fun z => .inl (e _ _ z)) .inr
mutual
/-- v denotes d, in the stable heap H -/
def Den (K : PySem.W.Frag) (cl : Nat → ClsT) (H : Hp) : D → V → Prop
  | .non, v => v = .non
  | .bl b, v => v = .bl b
  | .int i, v => v = .int i
  | .str x, v => v = .str x
  | .ty n, v => v = .ty n
  | .tup ds, v => ∃ a vs, v = .ref a ∧ TupAt K H a vs ∧ Dens K cl H ds vs
  | .lst ds, v => ∃ a vs, v = .ref a ∧ H a = some (.lst vs) ∧ Dens K cl H ds vs
  | .fl ds, v => ∃ a vs, v = .ref a ∧ SqL K H a vs ∧ Dens K cl H ds vs
  | .ins c ds, v => ∃ a dx vs, v = .ref a ∧ H a = some (.ins (cl c).addr dx ((cl c).names.zip vs)) ∧ Dens K cl H ds vs
  | .dic ks ds, v => ∃ a vs, v = .ref a ∧ H a = some (.dK (ks.zip vs)) ∧ ks.length = ds.length ∧ Dens K cl H ds vs
def Dens (K : PySem.W.Frag) (cl : Nat → ClsT) (H : Hp) : List D → List V → Prop
  | [], vs => vs = []
  | d :: ds, vs => ∃ v r, vs = v :: r ∧ Den K cl H d v ∧ Dens K cl H ds r
end
/-- observed: a list may stand outside the stable heap -/
def Obs (K : PySem.W.Frag) (cl : Nat → ClsT) (G H : Hp) : D → V → Prop
  | .lst ds, v => ∃ a vs, v = .ref a ∧ H a = some (.lst vs) ∧ Dens K cl G ds vs
  | .ins c ds, v => ∃ a dx vs, v = .ref a ∧ H a = some (.ins (cl c).addr dx ((cl c).names.zip vs)) ∧ Dens K cl G ds vs
  | .dic ks ds, v => ∃ a vs, v = .ref a ∧ H a = some (.dK (ks.zip vs)) ∧ ks.length = ds.length ∧ Dens K cl G ds vs
  | d, v => Den K cl G d v

theorem same_seqT {K : PySem.W.Frag} {H H' : Hp} {a : Addr} {xs : List V} (e : Same H H') (h : SqT K H a xs) : SqT K H' a xs := by
  rcases h with (h | ⟨o, h⟩) | h
  · exact .inl (.inl (e _ _ h))
  · exact .inl (.inr ⟨o, e _ _ h⟩)
  · exact .inr h
section
variable {K : PySem.W.Frag} {cl : Nat → ClsT} {G G' H H' : Hp}
mutual
theorem Den.mono (h : Same H H') : ∀ (d : D) (v : V), Den K cl H d v → Den K cl H' d v
  | .non, _, q => by simpa only [Den] using q
  | .bl b, _, q => by simpa only [Den] using q
  | .int i, _, q => by simpa only [Den] using q
  | .str x, _, q => by simpa only [Den] using q
  | .ty n, _, q => by simpa only [Den] using q
  | .tup ds, v, q => by
    simp only [Den] at q ⊢
    obtain ⟨a, vs, e, s, r⟩ := q
    exact ⟨a, vs, e, s.mono h, Dens.mono h ds vs r⟩
  | .lst ds, v, q => by
    simp only [Den] at q ⊢
    obtain ⟨a, vs, e, s, r⟩ := q
    exact ⟨a, vs, e, h _ _ s, Dens.mono h ds vs r⟩
  | .fl ds, v, q => by
    simp only [Den] at q ⊢
    obtain ⟨a, vs, e, s, r⟩ := q
    exact ⟨a, vs, e, h.seq s, Dens.mono h ds vs r⟩
  | .ins c ds, v, q => by
    simp only [Den] at q ⊢
    obtain ⟨a, dx, vs, e, s, r⟩ := q
    exact ⟨a, dx, vs, e, h _ _ s, Dens.mono h ds vs r⟩
  | .dic ks ds, v, q => by
    simp only [Den] at q ⊢
    obtain ⟨a, vs, e, s, l, r⟩ := q
    exact ⟨a, vs, e, h _ _ s, l, Dens.mono h ds vs r⟩
theorem Dens.mono (h : Same H H') : ∀ (ds : List D) (vs : List V), Dens K cl H ds vs → Dens K cl H' ds vs
  | [], _, q => by simpa only [Dens] using q
  | d :: ds, vs, q => by
    simp only [Dens] at q ⊢
    obtain ⟨v, r, e, q1, q2⟩ := q
    exact ⟨v, r, e, Den.mono h d v q1, Dens.mono h ds r q2⟩
end
theorem Dens.length : ∀ {ds : List D} {vs : List V}, Dens K cl H ds vs → vs.length = ds.length
  | [], _, q => by
    simp only [Dens] at q
    rw [q]
    rfl
  | d :: ds, vs, q => by
    simp only [Dens] at q
    obtain ⟨v, r, e, _, q2⟩ := q
    rw [e, List.length_cons, List.length_cons, Dens.length q2]
theorem Dens.get : ∀ {ds : List D} {vs : List V} {i : Nat} {v : V}, Dens K cl H ds vs → vs[i]? = some v → ∃ d, ds[i]? = some d ∧ Den K cl H d v
  | [], _, i, v, q, e => by
    simp only [Dens] at q
    rw [q] at e
    simp at e
  | d :: ds, vs, 0, v, q, e => by
    simp only [Dens] at q
    obtain ⟨u, r, rfl, q1, _⟩ := q
    cases (show some u = some v from e)
    exact ⟨d, rfl, q1⟩
  | d :: ds, vs, i + 1, v, q, e => by
    simp only [Dens] at q
    obtain ⟨u, r, rfl, _, q2⟩ := q
    obtain ⟨d', e1, e2⟩ := Dens.get (i := i) (v := v) q2 (by simpa using e)
    exact ⟨d', by simpa using e1, e2⟩
theorem Dens.get' : ∀ {ds : List D} {vs : List V} {i : Nat} {d : D}, Dens K cl H ds vs → ds[i]? = some d → ∃ v, vs[i]? = some v ∧ Den K cl H d v := fun {ds vs i d} q e => by
  have hi : i < ds.length := (List.getElem?_eq_some_iff.mp e).1
  have hi' : i < vs.length := by rw [q.length]; exact hi
  obtain ⟨d', e1, e2⟩ := q.get (List.getElem?_eq_getElem hi')
  rw [e] at e1
  cases e1
  exact ⟨_, List.getElem?_eq_getElem hi', e2⟩
theorem Dens.nil : Dens K cl H [] [] := by simp only [Dens]
theorem Dens.cons {d : D} {ds : List D} {v : V} {vs : List V} (h : Den K cl H d v) (t : Dens K cl H ds vs) : Dens K cl H (d :: ds) (v :: vs) := by
  simp only [Dens]
  exact ⟨v, vs, rfl, h, t⟩
theorem Dens.append : ∀ {ds es : List D} {vs us : List V}, Dens K cl H ds vs → Dens K cl H es us → Dens K cl H (ds ++ es) (vs ++ us)
  | [], _, _, _, q, r => by
    simp only [Dens] at q
    rw [q]
    exact r
  | d :: ds, es, vs, us, q, r => by
    simp only [Dens] at q
    obtain ⟨v, t, rfl, q1, q2⟩ := q
    exact Dens.cons q1 (Dens.append q2 r)
theorem Dens.take : ∀ {ds : List D} {vs : List V} (n : Nat), Dens K cl H ds vs → Dens K cl H (ds.take n) (vs.take n)
  | ds, vs, 0, _ => by
    rw [List.take_zero, List.take_zero]
    exact Dens.nil
  | [], _, n + 1, q => by
    simp only [Dens] at q
    rw [q]
    exact Dens.nil
  | d :: ds, _, n + 1, q => by
    simp only [Dens] at q
    obtain ⟨v, t, rfl, q1, q2⟩ := q
    exact Dens.cons q1 (Dens.take n q2)
theorem Dens.drop : ∀ {ds : List D} {vs : List V} (n : Nat), Dens K cl H ds vs → Dens K cl H (ds.drop n) (vs.drop n)
  | _, _, 0, q => q
  | [], _, n + 1, q => by
    simp only [Dens] at q
    rw [q]
    exact Dens.nil
  | d :: ds, _, n + 1, q => by
    simp only [Dens] at q
    obtain ⟨v, t, rfl, q1, q2⟩ := q
    exact Dens.drop n q2
theorem Dens.set : ∀ {ds : List D} {vs : List V} {d : D} {v : V} (n : Nat), Dens K cl H ds vs → Den K cl H d v → Dens K cl H (ds.set n d) (vs.set n v)
  | [], _, _, _, n, q, _ => by
    simp only [Dens] at q
    rw [q]
    exact Dens.nil
  | d :: ds, _, _, _, 0, q, r => by
    simp only [Dens] at q
    obtain ⟨v, t, rfl, q1, q2⟩ := q
    exact Dens.cons r q2
  | d :: ds, _, _, _, n + 1, q, r => by
    simp only [Dens] at q
    obtain ⟨v, t, rfl, q1, q2⟩ := q
    exact Dens.cons q1 (Dens.set n q2 r)
theorem Dens.reverse : ∀ {ds : List D} {vs : List V}, Dens K cl H ds vs → Dens K cl H ds.reverse vs.reverse
  | [], _, q => by
    simp only [Dens] at q
    rw [q]
    exact Dens.nil
  | d :: ds, _, q => by
    simp only [Dens] at q
    obtain ⟨v, t, rfl, q1, q2⟩ := q
    rw [List.reverse_cons, List.reverse_cons]
    exact Dens.append (Dens.reverse q2) (Dens.cons q1 Dens.nil)
theorem Obs.of (hs : Same G H) {d : D} {v : V} (h : Den K cl G d v) : Obs K cl G H d v := by
  cases d with
  | lst ds =>
    simp only [Den] at h
    obtain ⟨a, vs, e, s, r⟩ := h
    exact ⟨a, vs, e, hs _ _ s, r⟩
  | ins c ds =>
    simp only [Den] at h
    obtain ⟨a, dx, vs, e, s, r⟩ := h
    exact ⟨a, dx, vs, e, hs _ _ s, r⟩
  | dic ks ds =>
    simp only [Den] at h
    obtain ⟨a, vs, e, s, l, r⟩ := h
    exact ⟨a, vs, e, hs _ _ s, l, r⟩
  | _ => exact h
theorem Obs.mono (hg : Same G G') (hh : Same H H') {d : D} {v : V} (h : Obs K cl G H d v) : Obs K cl G' H' d v := by
  cases d with
  | lst ds =>
    obtain ⟨a, vs, e, s, r⟩ := h
    exact ⟨a, vs, e, hh _ _ s, r.mono hg⟩
  | ins c ds =>
    obtain ⟨a, dx, vs, e, s, r⟩ := h
    exact ⟨a, dx, vs, e, hh _ _ s, r.mono hg⟩
  | dic ks ds =>
    obtain ⟨a, vs, e, s, l, r⟩ := h
    exact ⟨a, vs, e, hh _ _ s, l, r.mono hg⟩
  | _ => exact Den.mono hg _ _ h
/-- a whole observed value, read in the whole heap -/
theorem Obs.den (hs : Same G H) {d : D} {v : V} (h : Obs K cl G H d v) : Den K cl H d v := by
  cases d with
  | lst ds =>
    obtain ⟨a, vs, e, s, r⟩ := h
    simp only [Den]
    exact ⟨a, vs, e, s, r.mono hs⟩
  | ins c ds =>
    obtain ⟨a, dx, vs, e, s, r⟩ := h
    simp only [Den]
    exact ⟨a, dx, vs, e, s, r.mono hs⟩
  | dic ks ds =>
    obtain ⟨a, vs, e, s, l, r⟩ := h
    simp only [Den]
    exact ⟨a, vs, e, s, l, r.mono hs⟩
  | _ => exact Den.mono hs _ _ h
end

/-- nothing tracked changes; the stable part grows by new objects alone -/
structure Grow (H G H' G' : Hp) : Prop where
  hh : Same H H'
  gg : Same G G'
  sub : Same G' H'
  new : ∀ b, G' b ≠ none → G b ≠ none ∨ H b = none
theorem Grow.refl {H G : Hp} (s : Same G H) : Grow H G H G := ⟨Same.refl _, Same.refl _, s, fun _ h => .inl h⟩
theorem Grow.trans {H G H1 G1 H2 G2 : Hp} (a : Grow H G H1 G1) (b : Grow H1 G1 H2 G2) : Grow H G H2 G2 :=
  ⟨a.hh.trans b.hh, a.gg.trans b.gg, b.sub, fun c hc => (b.new c hc).elim (fun z => a.new c z) fun z => .inr (a.hh.free z)⟩
theorem same_upd {H : Hp} {p : Addr} {o : HO} (h : H p = none) : Same H (upd H p o) := fun b x e => by
  rw [upd_ne (ne_of_none e h)]
  exact e
theorem upd_none {H : Hp} {p b : Addr} {o : HO} (h : upd H p o b = none) : H b = none ∧ b ≠ p := by
  by_cases e : b = p
  · subst e
    rw [upd_same] at h
    cases h
  · rw [upd_ne e] at h
    exact ⟨h, e⟩
/-- a new object, stable -/
theorem Grow.laid {H G : Hp} {p : Addr} {o : HO} (s : Same G H) (h : H p = none) : Grow H G (upd H p o) (upd G p o) := by
  have hg : G p = none := s.free h
  refine ⟨same_upd h, same_upd hg, fun b x e => ?_, fun b hb => ?_⟩
  · by_cases q : b = p
    · subst q
      rw [upd_same] at e ⊢
      exact e
    · rw [upd_ne q] at e ⊢
      exact s _ _ e
  · by_cases q : b = p
    · exact .inr (q ▸ h)
    · rw [upd_ne q] at hb
      exact .inl hb
/-- a new object, not stable (owned) -/
theorem Grow.laidO {H G : Hp} {p : Addr} {o : HO} (s : Same G H) (h : H p = none) : Grow H G (upd H p o) G :=
  ⟨same_upd h, Same.refl _, s.trans (same_upd h), fun b hb => .inl hb⟩

/-! ### objects of one's own -/
inductive Ow where
  | lst (ds : List D)
  | dic (ks : List Key) (ds : List D)
  | obj (c : Nat) (ds : List D)
def Ow.toD : Ow → D
  | .lst ds => .lst ds
  | .dic ks ds => .dic ks ds
  | .obj c ds => .ins c ds
/-- what stands there -/
def OwOk (K : PySem.W.Frag) (cl : Nat → ClsT) (G : Hp) : Ow → HO → Prop
  | .lst ds, o => ∃ vs, o = .lst vs ∧ Dens K cl G ds vs
  | .dic ks ds, o => ∃ vs, o = .dK (ks.zip vs) ∧ ks.length = ds.length ∧ Dens K cl G ds vs
  | .obj c ds, o => ∃ dx vs, o = .ins (cl c).addr dx ((cl c).names.zip vs) ∧ Dens K cl G ds vs
section
variable {K : PySem.W.Frag} {cl : Nat → ClsT} {G G' H : Hp} {o : Ow} {ho : HO} {a : Addr}
theorem OwOk.mono (s : Same G G') (h : OwOk K cl G o ho) : OwOk K cl G' o ho := by
  cases o with
  | lst ds =>
    obtain ⟨vs, e, q⟩ := h
    exact ⟨vs, e, q.mono s⟩
  | dic ks ds =>
    obtain ⟨vs, e, l, q⟩ := h
    exact ⟨vs, e, l, q.mono s⟩
  | obj c ds =>
    obtain ⟨dx, vs, e, q⟩ := h
    exact ⟨dx, vs, e, q.mono s⟩
theorem OwOk.den (h : OwOk K cl G o ho) (ha : G a = some ho) : Den K cl G o.toD (.ref a) := by
  cases o with
  | lst ds =>
    obtain ⟨vs, rfl, q⟩ := h
    simp only [Ow.toD, Den]
    exact ⟨a, vs, rfl, ha, q⟩
  | dic ks ds =>
    obtain ⟨vs, rfl, l, q⟩ := h
    simp only [Ow.toD, Den]
    exact ⟨a, vs, rfl, ha, l, q⟩
  | obj c ds =>
    obtain ⟨dx, vs, rfl, q⟩ := h
    simp only [Ow.toD, Den]
    exact ⟨a, dx, vs, rfl, ha, q⟩
theorem OwOk.obs (h : OwOk K cl G o ho) (ha : H a = some ho) : Obs K cl G H o.toD (.ref a) := by
  cases o with
  | lst ds =>
    obtain ⟨vs, rfl, q⟩ := h
    exact ⟨a, vs, rfl, ha, q⟩
  | dic ks ds =>
    obtain ⟨vs, rfl, l, q⟩ := h
    exact ⟨a, vs, rfl, ha, l, q⟩
  | obj c ds =>
    obtain ⟨dx, vs, rfl, q⟩ := h
    exact ⟨a, dx, vs, rfl, ha, q⟩
end

/-! ### environments -/
inductive Cell where
  | no | sh (d : D) | own (o : Ow)
abbrev Env := List Cell
def cellAt : Env → Nat → Cell
  | [], _ => .no
  | c :: _, 0 => c
  | _ :: r, i + 1 => cellAt r i
theorem cellAt_get : ∀ {ρ : Env} {i : Nat} {c : Cell}, cellAt ρ i = c → c ≠ .no → ρ[i]? = some c
  | [], _, _, h, n => absurd h.symm n
  | c :: _, 0, _, h, _ => by
    subst h
    rfl
  | _ :: r, i + 1, c, h, n => by
    simpa using cellAt_get (ρ := r) (i := i) h n

structure Wd where
  cl : Nat → ClsT
  G0 : Hp
  H0 : Hp
  /-- where the object stands that an __init__ fills -/
  sf : Addr
/-- the heap over the entry -/
structure Base (w : Wd) (H G : Hp) : Prop where
  ext : Same w.H0 H
  gext : Same w.G0 G
  sub : Same G H
  new : ∀ b, G b ≠ none → w.G0 b ≠ none ∨ w.H0 b = none
theorem Base.grow {w : Wd} {H G : Hp} (b : Base w H G) : Grow w.H0 w.G0 H G := ⟨b.ext, b.gext, b.sub, b.new⟩
theorem Base.go {w : Wd} {H G H' G' : Hp} (b : Base w H G) (g : Grow H G H' G') : Base w H' G' :=
  ⟨b.ext.trans g.hh, b.gext.trans g.gg, g.sub, fun c hc => (g.new c hc).elim (fun z => b.new c z) fun z => .inr (b.ext.free z)⟩
structure Rep (K : PySem.W.Frag) (w : Wd) (σ : L2.St) (H G : Hp) (ρ : Env) : Prop where
  base : Base w H G
  len : σ.length = ρ.length
  sh : ∀ (i : Nat) (d : D), ρ[i]? = some (.sh d) → ∃ v, σ[i]? = some (some v) ∧ Den K w.cl G d v
  own : ∀ (i : Nat) (o : Ow), ρ[i]? = some (.own o) → ∃ a ho, σ[i]? = some (some (.ref a)) ∧ H a = some ho ∧ G a = none ∧ w.H0 a = none ∧ OwOk K w.cl G o ho
  slf : ∀ (i c : Nat) (ds : List D), ρ[i]? = some (.own (.obj c ds)) → σ[i]? = some (some (.ref w.sf))
  dis : ∀ (i j : Nat) (ds es : Ow) (a : Addr), ρ[i]? = some (.own ds) → ρ[j]? = some (.own es) → σ[i]? = some (some (.ref a)) → σ[j]? = some (some (.ref a)) → i = j
section
variable {K : PySem.W.Frag} {w : Wd} {σ : L2.St} {G G' H H' : Hp} {ρ : Env}
theorem Rep.go (r : Rep K w σ H G ρ) (g : Grow H G H' G') : Rep K w σ H' G' ρ := by
  refine ⟨r.base.go g, r.len, fun i d e => ?_, fun i ds e => ?_, r.slf, r.dis⟩
  · obtain ⟨v, e1, e2⟩ := r.sh i d e
    exact ⟨v, e1, e2.mono g.gg⟩
  · obtain ⟨a, vs, e1, e2, e3, e4, e5⟩ := r.own i ds e
    refine ⟨a, vs, e1, g.hh _ _ e2, ?_, e4, e5.mono g.gg⟩
    cases q : G' a with
    | none => rfl
    | some o =>
      rcases g.new a (by rw [q]; exact fun z => nomatch z) with z | z
      · exact absurd e3 z
      · rw [e2] at z
        cases z
end

/-! ### readings -/
abbrev Ef := Env → Option D
abbrev Tf := Env → Option Bool
abbrev Af := Env → Option (List D)
def tP (K : PySem.W.Frag) (w : Wd) (f : Ef) : TE := fun σ H Q => ∃ ρ G d, Rep K w σ H G ρ ∧ f ρ = some d ∧ ∀ v H' G', Grow H G H' G' → Den K w.cl G' d v → Q v H'
def tO (K : PySem.W.Frag) (w : Wd) (f : Ef) : TE := fun σ H Q => ∃ ρ G d, Rep K w σ H G ρ ∧ f ρ = some d ∧ ∀ v H' G', Grow H G H' G' → Obs K w.cl G' H' d v → Q v H'
def tF (K : PySem.W.Frag) (w : Wd) (f : Af) : TE := fun σ H Q => ∃ ρ G ds, Rep K w σ H G ρ ∧ f ρ = some ds ∧ ∀ a vs H' G', Grow H G H' G' → H a = none → H' a = some (.lst vs) → G' a = none → Dens K w.cl G' ds vs → Q (.ref a) H'
def tT (K : PySem.W.Frag) (w : Wd) (f : Tf) : TT := fun σ H Q => ∃ ρ G b, Rep K w σ H G ρ ∧ f ρ = some b ∧ ∀ H' G', Grow H G H' G' → Q b H'
def tA (K : PySem.W.Frag) (w : Wd) (f : Af) : TA := fun σ H Q => ∃ ρ G ds, Rep K w σ H G ρ ∧ f ρ = some ds ∧ ∀ vs H' G', Grow H G H' G' → Dens K w.cl G' ds vs → Q vs H'
abbrev VE (w : Wd) (X : Cx) (e : Expr) (f : Ef) : Prop := PE X e (tP X.K w f)
abbrev VO (w : Wd) (X : Cx) (e : Expr) (f : Ef) : Prop := PE X e (tO X.K w f)
abbrev VF (w : Wd) (X : Cx) (e : Expr) (f : Af) : Prop := PE X e (tF X.K w f)
def tW (K : PySem.W.Frag) (w : Wd) (f : Env → Option Ow) : TE := fun σ H Q => ∃ ρ G o, Rep K w σ H G ρ ∧ f ρ = some o ∧ ∀ a ho H' G', Grow H G H' G' → H a = none → H' a = some ho → G' a = none → OwOk K w.cl G' o ho → Q (.ref a) H'
abbrev VN (w : Wd) (X : Cx) (e : Expr) (f : Env → Option Ow) : Prop := PE X e (tW X.K w f)
abbrev VT (w : Wd) (X : Cx) (e : Expr) (f : Tf) : Prop := PT X e (tT X.K w f)
abbrev VW (w : Wd) (X : Cx) (e : Expr) (f : Tf) : Prop := PW X e (tT X.K w f)
abbrev VA (w : Wd) (X : Cx) (es : List Expr) (f : Af) : Prop := PA X es (tA X.K w f)

/-- what a statement comes to -/
inductive Out where
  | nx (ρ : Env) | bk (ρ : Env) | ct (ρ : Env)
  | rt (d : D) | rf (o : Ow)
  | stuck
abbrev Sf := Env → Out
def post (K : PySem.W.Frag) (w : Wd) (G0 : Hp) (Ds : Ends) : Out → Prop
  | .nx ρ => ∀ σ H G, Same G0 G → Rep K w σ H G ρ → Ds.nx σ H
  | .bk ρ => ∀ σ H G, Same G0 G → Rep K w σ H G ρ → Ds.bk σ H
  | .ct ρ => ∀ σ H G, Same G0 G → Rep K w σ H G ρ → Ds.ct σ H
  | .rt d => ∀ v H G, Base w H G → Den K w.cl G d v → Ds.rt v H
  | .rf o => ∀ a ho H G, Base w H G → w.H0 a = none → H a = some ho → G a = none → OwOk K w.cl G o ho → Ds.rt (.ref a) H
  | .stuck => False
def tS (K : PySem.W.Frag) (w : Wd) (F : Sf) : TS := fun Ds σ H => ∃ ρ G, Rep K w σ H G ρ ∧ post K w G Ds (F ρ)
theorem post.mono {K : PySem.W.Frag} {w : Wd} {G G' : Hp} {Ds : Ends} (h : Same G G') : ∀ {o : Out}, post K w G Ds o → post K w G' Ds o
  | .nx _, q => fun σ H G2 s => q σ H G2 (h.trans s)
  | .bk _, q => fun σ H G2 s => q σ H G2 (h.trans s)
  | .ct _, q => fun σ H G2 s => q σ H G2 (h.trans s)
  | .rt _, q => q
  | .rf _, q => q
  | .stuck, q => q
abbrev VS (w : Wd) (X : Cx) (s : Stmt) (F : Sf) : Prop := PS X s (tS X.K w F)
abbrev VSs (w : Wd) (X : Cx) (s : List Stmt) (F : Sf) : Prop := PSs X s (tS X.K w F)

/-! ### weakening -/
section
variable {X : Cx} {e : Expr} {es : List Expr} {s : Stmt} {ss : List Stmt}
theorem PE.imp {t t' : TE} (h : PE X e t) (hi : ∀ σ H Q, t' σ H Q → t σ H Q) : PE X e t' := ⟨fun pins s σ H Q I q => h.run pins s σ H Q I (hi _ _ _ q)⟩
theorem PT.imp {t t' : TT} (h : PT X e t) (hi : ∀ σ H Q, t' σ H Q → t σ H Q) : PT X e t' := ⟨fun pins s σ H Q I q => h.run pins s σ H Q I (hi _ _ _ q)⟩
theorem PW.imp {t t' : TT} (h : PW X e t) (hi : ∀ σ H Q, t' σ H Q → t σ H Q) : PW X e t' := ⟨fun wh pins s σ H Q I q => h.run wh pins s σ H Q I (hi _ _ _ q)⟩
theorem PA.imp {t t' : TA} (h : PA X es t) (hi : ∀ σ H Q, t' σ H Q → t σ H Q) : PA X es t' := ⟨fun pos pins s σ H Q I q => h.run pos pins s σ H Q I (hi _ _ _ q)⟩
theorem PS.imp {t t' : TS} (h : PS X s t) (hi : ∀ Ds σ H, t' Ds σ H → t Ds σ H) : PS X s t' := ⟨fun pins s σ H Ds I q => h.run pins s σ H Ds I (hi _ _ _ q)⟩
theorem PSs.imp {t t' : TS} (h : PSs X ss t) (hi : ∀ Ds σ H, t' Ds σ H → t Ds σ H) : PSs X ss t' := ⟨fun pins s σ H Ds I q => h.run pins s σ H Ds I (hi _ _ _ q)⟩
end

section
variable {X : Cx} {w : Wd} {e ea eb : Expr} {es : List Expr} {f g : Ef} {pos : Pos}
/-! ### coercions -/
theorem toO (h : VE w X e f) : VO w X e f := PE.imp h fun σ H Q ⟨ρ, G, d, r, hf, q⟩ => ⟨ρ, G, d, r, hf, fun v H' G' g z => q v H' G' g (Obs.of g.sub z)⟩
theorem fresh_in {H G H' G' : Hp} {a : Addr} {ho : HO} (g : Grow H G H' G') (h0 : H a = none) (h1 : H' a = some ho) (h2 : G' a = none) : Grow H G H' (upd G' a ho) := by
  have gn : Same G' (upd G' a ho) := same_upd h2
  refine ⟨g.hh, g.gg.trans gn, fun b x z => ?_, fun b hb => ?_⟩
  · by_cases hba : b = a
    · subst hba
      rw [upd_same] at z
      rw [← z]
      exact h1
    · rw [upd_ne hba] at z
      exact g.sub _ _ z
  · by_cases hba : b = a
    · exact .inr (hba ▸ h0)
    · rw [upd_ne hba] at hb
      exact g.new b hb
def fL (f : Af) : Ef := fun ρ => (f ρ).map .lst
def fW (f : Env → Option Ow) : Ef := fun ρ => (f ρ).map Ow.toD
def wL (f : Af) : Env → Option Ow := fun ρ => (f ρ).map .lst
theorem map_some2 {α β : Type} {o : Option α} {f : α → β} {b : β} (h : o.map f = some b) : ∃ a, o = some a ∧ f a = b := by
  cases o with
  | none => cases h
  | some a => exact ⟨a, rfl, Option.some.inj h⟩
theorem bind_some2 {α β : Type} {o : Option α} {f : α → Option β} {b : β} (h : o.bind f = some b) : ∃ a, o = some a ∧ f a = some b := by
  cases o with
  | none => cases h
  | some a => exact ⟨a, rfl, h⟩
theorem fL_imp {K : PySem.W.Frag} {fs : Af} : ∀ σ H Q, tP K w (fL fs) σ H Q → tF K w fs σ H Q := fun σ H Q ⟨ρ, G, d, r, hf, q⟩ => by
  obtain ⟨ds, e, rfl⟩ := map_some2 hf
  refine ⟨ρ, G, ds, r, e, fun a vs H' G' g h0 h1 h2 h3 => ?_⟩
  refine q (.ref a) H' _ (fresh_in g h0 h1 h2) ?_
  simp only [Den]
  exact ⟨a, vs, rfl, upd_same, h3.mono (same_upd h2)⟩
theorem fW_imp {K : PySem.W.Frag} {fs : Env → Option Ow} : ∀ σ H Q, tP K w (fW fs) σ H Q → tW K w fs σ H Q := fun σ H Q ⟨ρ, G, d, r, hf, q⟩ => by
  obtain ⟨o, e, rfl⟩ := map_some2 hf
  refine ⟨ρ, G, o, r, e, fun a ho H' G' g h0 h1 h2 h3 => ?_⟩
  exact q (.ref a) H' _ (fresh_in g h0 h1 h2) ((h3.mono (same_upd h2)).den upd_same)
theorem wL_imp {K : PySem.W.Frag} {fs : Af} : ∀ σ H Q, tW K w (wL fs) σ H Q → tF K w fs σ H Q := fun σ H Q ⟨ρ, G, d, r, hf, q⟩ => by
  obtain ⟨ds, e, rfl⟩ := map_some2 hf
  exact ⟨ρ, G, ds, r, e, fun a vs H' G' g h0 h1 h2 h3 => q a (.lst vs) H' G' g h0 h1 h2 ⟨vs, rfl, h3⟩⟩
theorem ofF {f : Af} (h : VF w X e f) : VE w X e (fL f) := PE.imp h fL_imp
theorem ofN {f : Env → Option Ow} (h : VN w X e f) : VE w X e (fW f) := PE.imp h fW_imp
theorem toN {f : Af} (h : VF w X e f) : VN w X e (wL f) := PE.imp h wL_imp

/-! ### sequencing -/
theorem seqE {K : PySem.W.Frag} {σ : L2.St} {H G : Hp} {ρ : Env} {d : D} {Q : VK} (r : Rep K w σ H G ρ) (hf : f ρ = some d) (q : ∀ v H' G', Grow H G H' G' → Rep K w σ H' G' ρ → Den K w.cl G' d v → Q v H') : tP K w f σ H Q :=
  ⟨ρ, G, d, r, hf, fun v H' G' g z => q v H' G' g (r.go g) z⟩
theorem seqO {K : PySem.W.Frag} {σ : L2.St} {H G : Hp} {ρ : Env} {d : D} {Q : VK} (r : Rep K w σ H G ρ) (hf : f ρ = some d) (q : ∀ v H' G', Grow H G H' G' → Rep K w σ H' G' ρ → Obs K w.cl G' H' d v → Q v H') : tO K w f σ H Q :=
  ⟨ρ, G, d, r, hf, fun v H' G' g z => q v H' G' g (r.go g) z⟩

/-! ### names, constants -/
def eVar (i : Nat) : Ef := fun ρ => match cellAt ρ i with
  | .sh d => some d
  | _ => none
theorem eVar_some {i : Nat} {ρ : Env} {d : D} (h : eVar i ρ = some d) : ρ[i]? = some (.sh d) := by
  unfold eVar at h
  split at h
  · rename_i d' e
    cases h
    exact cellAt_get e (fun z => nomatch z)
  · cases h
theorem ve_var {i : Nat} (h : PE X e (tVar i)) : VE w X e (eVar i) := PE.imp h fun σ H Q ⟨ρ, G, d, r, hf, q⟩ => by
  obtain ⟨v, e1, e2⟩ := r.sh i d (eVar_some hf)
  exact ⟨v, e1, q v H G (Grow.refl r.base.sub) e2⟩
/-- a local that may hold an object of its own, looked at -/
def eOwn (i : Nat) : Ef := fun ρ => match cellAt ρ i with
  | .own o => some o.toD
  | .sh d => some d
  | _ => none
theorem vo_var {i : Nat} (h : PE X e (tVar i)) : VO w X e (eOwn i) := PE.imp h fun σ H Q ⟨ρ, G, d, r, hf, q⟩ => by
  unfold eOwn at hf
  split at hf
  · rename_i ds e
    cases hf
    obtain ⟨a, vs, e1, e2, e3, e4, e5⟩ := r.own i ds (cellAt_get e (fun z => nomatch z))
    exact ⟨_, e1, q _ H G (Grow.refl r.base.sub) (e5.obs e2)⟩
  · rename_i d' e
    cases hf
    obtain ⟨v, e1, e2⟩ := r.sh i _ (cellAt_get e (fun z => nomatch z))
    exact ⟨v, e1, q v H G (Grow.refl r.base.sub) (Obs.of r.base.sub e2)⟩
  · cases hf
def eC (d : D) : Ef := fun _ => some d
theorem ve_int {i : Int} {j} : VE w X (.Constant (.int i) j pos) (eC (.int i)) := PE.imp pe_int fun σ H Q ⟨ρ, G, d, r, hf, q⟩ => by
  cases hf
  exact q _ H G (Grow.refl r.base.sub) (by simp only [Den])
theorem ve_bl {b : Bool} {j} : VE w X (.Constant (.bool b) j pos) (eC (.bl b)) := PE.imp pe_bl fun σ H Q ⟨ρ, G, d, r, hf, q⟩ => by
  cases hf
  exact q _ H G (Grow.refl r.base.sub) (by simp only [Den])
theorem ve_non {j} : VE w X (.Constant .none j pos) (eC .non) := PE.imp pe_non fun σ H Q ⟨ρ, G, d, r, hf, q⟩ => by
  cases hf
  exact q _ H G (Grow.refl r.base.sub) (by simp only [Den])
theorem ve_str {x : Str} {j} : VE w X (.Constant (.str x) j pos) (eC (.str x)) := PE.imp pe_str fun σ H Q ⟨ρ, G, d, r, hf, q⟩ => by
  cases hf
  exact q _ H G (Grow.refl r.base.sub) (by simp only [Den])

/-! ### two operands -/
/-- what a rule by values gives, over data -/
def Res2 (K : PySem.W.Frag) (cl : Nat → ClsT) (r : R2) (o : D → D → Option D) : Prop :=
  ∀ (d e z : D), o d e = some z → ∀ (H G : Hp) (x y : V) (Q : VK), Same G H → Obs K cl G H d x → Obs K cl G H e y → (∀ v H' G', Grow H G H' G' → Den K cl G' z v → Q v H') → r x y H Q
def eBin (o : D → D → Option D) (f g : Ef) : Ef := fun ρ => (f ρ).bind fun a => (g ρ).bind fun b => o a b
theorem eBin_some {o : D → D → Option D} {ρ : Env} {z : D} (h : eBin o f g ρ = some z) : ∃ a b, f ρ = some a ∧ g ρ = some b ∧ o a b = some z := by
  unfold eBin at h
  cases hf : f ρ with
  | none =>
    rw [hf] at h
    cases h
  | some a =>
    cases hg : g ρ with
    | none =>
      rw [hf] at h
      rw [Option.bind_some, hg] at h
      cases h
    | some b =>
      rw [hf, Option.bind_some, hg, Option.bind_some] at h
      exact ⟨a, b, rfl, rfl, h⟩
theorem op2_imp {r : R2} {o : D → D → Option D} {K : PySem.W.Frag} (hr : Res2 K w.cl r o) : ∀ σ H Q, tP K w (eBin o f g) σ H Q → tOp r (tO K w f) (tO K w g) σ H Q := fun σ H Q ⟨ρ, G, z, rp, hf, q⟩ => by
  obtain ⟨a, b, fa, gb, hz⟩ := eBin_some hf
  refine seqO rp fa fun x H1 G1 g1 r1 z1 => ?_
  refine seqO r1 gb fun y H2 G2 g2 r2 z2 => ?_
  exact hr a b z hz H2 G2 x y Q g2.sub (z1.mono g2.gg g2.hh) z2 fun v H' G' g' zz => q v H' G' (g1.trans (g2.trans g')) zz
theorem ve_bin {op : Operator} {r : R2} {o : D → D → Option D} (ho : OpR X (binaryOp op) r) (hr : Res2 X.K w.cl r o) (ha : VO w X ea f) (hb : VO w X eb g) : VE w X (.BinOp ea op eb pos) (eBin o f g) :=
  PE.imp (pe_op ho ha hb) (op2_imp hr)
theorem ve_cmp {op : CmpOp} {r : R2} {o : D → D → Option D} (ho : OpR X (compareOp op) r) (hr : Res2 X.K w.cl r o) (ha : VO w X ea f) (hb : VO w X eb g) (hm : behindInMarks op eb = false) : VE w X (.Compare ea [op] [eb] pos) (eBin o f g) :=
  PE.imp (pe_cmpR ho ha hb hm) (op2_imp hr)
/-- a value that is a bool -/
def asB : Option D → Option Bool
  | some (.bl b) => some b
  | _ => none
theorem asB_some {o : Option D} {b : Bool} (h : asB o = some b) : o = some (.bl b) := by
  unfold asB at h
  split at h
  · cases h
    rfl
  · cases h
def tB1 (f : Ef) : Tf := fun ρ => asB (f ρ)
theorem vt_imp {K : PySem.W.Frag} {t : TE} (h : ∀ σ H Q, tP K w f σ H Q → t σ H Q) : ∀ σ H Q, tT K w (tB1 f) σ H Q → tTest t σ H Q := fun σ H Q ⟨ρ, G, b, rp, hf, q⟩ => by
  refine h _ _ _ ⟨ρ, G, .bl b, rp, asB_some hf, fun v H' G' g z => ?_⟩
  simp only [Den] at z
  exact ⟨b, z, q H' G' g⟩
theorem vt_cmp {op : CmpOp} {r : R2} {o : D → D → Option D} (ho : OpR X (compareOp op) r) (hr : Res2 X.K w.cl r o) (ha : VO w X ea f) (hb : VO w X eb g) (hm : behindInMarks op eb = false) : VT w X (.Compare ea [op] [eb] pos) (tB1 (eBin o f g)) :=
  PT.imp (pt_cmpR ho ha hb hm) (vt_imp (op2_imp hr))
theorem vt_val (h : VE w X e f) (he : ∀ whole, isTrue e X.env whole = (do let v ← whole; standAt e.pos; holding [v] (truthy v)) := by intro _; rfl) : VT w X e (tB1 f) :=
  PT.imp (pt_val h he) fun σ H Q q => vt_imp (t := tP X.K w f) (fun _ _ _ z => z) σ H Q q
end
end Fw

/-! Fw1: operators over data. -/
namespace Fw
open PySem PySem.Spec PyProof.Rows L2
section
variable {K : PySem.W.Frag} {cl : Nat → ClsT} {G H : Hp} {v : V}
theorem den_non (h : Den K cl H .non v) : v = .non := by simpa only [Den] using h
theorem den_bl {b : Bool} (h : Den K cl H (.bl b) v) : v = .bl b := by simpa only [Den] using h
theorem den_int {i : Int} (h : Den K cl H (.int i) v) : v = .int i := by simpa only [Den] using h
theorem den_str {x : Str} (h : Den K cl H (.str x) v) : v = .str x := by simpa only [Den] using h
theorem den_ty {x : String} (h : Den K cl H (.ty x) v) : v = .ty x := by simpa only [Den] using h
theorem den_tup {ds : List D} (h : Den K cl H (.tup ds) v) : ∃ a vs, v = .ref a ∧ TupAt K H a vs ∧ Dens K cl H ds vs := by simpa only [Den] using h
theorem den_lst {ds : List D} (h : Den K cl H (.lst ds) v) : ∃ a vs, v = .ref a ∧ H a = some (.lst vs) ∧ Dens K cl H ds vs := by simpa only [Den] using h
theorem den_fl {ds : List D} (h : Den K cl H (.fl ds) v) : ∃ a vs, v = .ref a ∧ SqL K H a vs ∧ Dens K cl H ds vs := by simpa only [Den] using h
theorem den_ins {c : Nat} {ds : List D} (h : Den K cl H (.ins c ds) v) : ∃ a dx vs, v = .ref a ∧ H a = some (.ins (cl c).addr dx ((cl c).names.zip vs)) ∧ Dens K cl H ds vs := by simpa only [Den] using h
theorem mk_non : Den K cl H .non .non := by simp only [Den]
theorem mk_bl {b : Bool} : Den K cl H (.bl b) (.bl b) := by simp only [Den]
theorem mk_int {i : Int} : Den K cl H (.int i) (.int i) := by simp only [Den]
theorem mk_str {x : Str} : Den K cl H (.str x) (.str x) := by simp only [Den]
theorem mk_ty {x : String} : Den K cl H (.ty x) (.ty x) := by simp only [Den]
theorem mk_tup {ds : List D} {a : Addr} {vs : List V} (h : TupAt K H a vs) (q : Dens K cl H ds vs) : Den K cl H (.tup ds) (.ref a) := by
  simp only [Den]
  exact ⟨a, vs, rfl, h, q⟩
theorem mk_lst {ds : List D} {a : Addr} {vs : List V} (h : H a = some (.lst vs)) (q : Dens K cl H ds vs) : Den K cl H (.lst ds) (.ref a) := by
  simp only [Den]
  exact ⟨a, vs, rfl, h, q⟩
theorem obs_non (h : Obs K cl G H .non v) : v = .non := den_non (K := K) (cl := cl) (H := G) h
theorem obs_bl {b : Bool} (h : Obs K cl G H (.bl b) v) : v = .bl b := den_bl (K := K) (cl := cl) (H := G) h
theorem obs_int {i : Int} (h : Obs K cl G H (.int i) v) : v = .int i := den_int (K := K) (cl := cl) (H := G) h
theorem obs_str {x : Str} (h : Obs K cl G H (.str x) v) : v = .str x := den_str (K := K) (cl := cl) (H := G) h
theorem obs_ty {x : String} (h : Obs K cl G H (.ty x) v) : v = .ty x := den_ty (K := K) (cl := cl) (H := G) h
theorem obs_tup {ds : List D} (h : Obs K cl G H (.tup ds) v) : ∃ a vs, v = .ref a ∧ TupAt K G a vs ∧ Dens K cl G ds vs := den_tup (K := K) (cl := cl) (H := G) h
theorem obs_lst {ds : List D} (h : Obs K cl G H (.lst ds) v) : ∃ a vs, v = .ref a ∧ H a = some (.lst vs) ∧ Dens K cl G ds vs := h
theorem obs_fl {ds : List D} (h : Obs K cl G H (.fl ds) v) : ∃ a vs, v = .ref a ∧ SqL K G a vs ∧ Dens K cl G ds vs := den_fl (K := K) (cl := cl) (H := G) h
theorem obs_ins {c : Nat} {ds : List D} (h : Obs K cl G H (.ins c ds) v) : ∃ a dx vs, v = .ref a ∧ H a = some (.ins (cl c).addr dx ((cl c).names.zip vs)) ∧ Dens K cl G ds vs := h
theorem den_dic {ks : List Key} {ds : List D} (h : Den K cl H (.dic ks ds) v) : ∃ a vs, v = .ref a ∧ H a = some (.dK (ks.zip vs)) ∧ ks.length = ds.length ∧ Dens K cl H ds vs := by simpa only [Den] using h
theorem obs_dic {ks : List Key} {ds : List D} (h : Obs K cl G H (.dic ks ds) v) : ∃ a vs, v = .ref a ∧ H a = some (.dK (ks.zip vs)) ∧ ks.length = ds.length ∧ Dens K cl G ds vs := h
end

/-- a rule that gives a new list -/
def ResF2 (K : PySem.W.Frag) (cl : Nat → ClsT) (r : R2) (o : D → D → Option (List D)) : Prop :=
  ∀ (d e : D) (zs : List D), o d e = some zs → ∀ (H G : Hp) (x y : V) (Q : VK), Same G H → Obs K cl G H d x → Obs K cl G H e y →
    (∀ a vs H' G', Grow H G H' G' → H a = none → H' a = some (.lst vs) → G' a = none → Dens K cl G' zs vs → Q (.ref a) H') → r x y H Q
/-- a new tuple -/
theorem new_tup {K : PySem.W.Frag} {cl : Nat → ClsT} {H G : Hp} {p : Addr} {ds : List D} {vs : List V} {Q : VK} (s : Same G H) (hp : H p = none) (hd : Dens K cl G ds vs) (q : ∀ v H' G', Grow H G H' G' → Den K cl G' (.tup ds) v → Q v H') : Q (.ref p) (upd H p (.tup vs)) :=
  q _ _ (upd G p (.tup vs)) (Grow.laid s hp) (mk_tup (.inl upd_same) (hd.mono (same_upd (s.free hp))))
theorem new_lst {K : PySem.W.Frag} {cl : Nat → ClsT} {H G : Hp} {p : Addr} {ds : List D} {vs : List V} {Q : VK} (s : Same G H) (hp : H p = none) (hd : Dens K cl G ds vs)
    (q : ∀ a vs H' G', Grow H G H' G' → H a = none → H' a = some (.lst vs) → G' a = none → Dens K cl G' ds vs → Q (.ref a) H') : Q (.ref p) (upd H p (.lst vs)) :=
  q p vs _ G (Grow.laidO s hp) hp upd_same (s.free hp) hd
theorem dens_len {K : PySem.W.Frag} {cl : Nat → ClsT} {H : Hp} {ds : List D} {vs : List V} (h : Dens K cl H ds vs) : vs.length = ds.length := h.length
theorem line_le {n : Nat} (h : n ≤ 16777216) : n ≤ sizeLine := by rw [sizeLine_eq]; exact h
theorem line_lt {n : Nat} (h : n < 16777216) : n < sizeLine := by rw [sizeLine_eq]; exact h
section
variable {K : PySem.W.Frag} {cl : Nat → ClsT} {f g : Ef} {w : Wd} {X : Cx} {ea eb : Expr} {pos : Pos}
def oCatL (d e : D) : Option (List D) := match d, e with
  | .lst a, .lst b => if a.length + b.length ≤ 16777216 then some (a ++ b) else none
  | _, _ => none
theorem r_catL : ResF2 K cl rCat oCatL := by
  intro d e zs hz H G x y Q s hx hy q
  unfold oCatL at hz
  split at hz
  · rename_i a b
    split at hz
    · rename_i hl
      cases hz
      obtain ⟨p, vs, rfl, h1, h2⟩ := obs_lst hx
      obtain ⟨p', us, rfl, h3, h4⟩ := obs_lst hy
      exact ⟨p, p', vs, us, rfl, rfl, h1, h3, line_le (by rw [h2.length, h4.length]; exact hl), fun r hr => new_lst s hr (h2.append h4) q⟩
    · cases hz
  · cases hz
def oAdd (d e : D) : Option D := match d, e with
  | .int i, .int j => some (.int (i + j))
  | .str a, .str b => if a.length + b.length ≤ 16777216 then some (.str (a ++ b)) else none
  | .tup a, .tup b => if a.length + b.length ≤ 16777216 then some (.tup (a ++ b)) else none
  | .lst a, .lst b => if a.length + b.length ≤ 16777216 then some (.lst (a ++ b)) else none
  | _, _ => none
def rAddD (K : PySem.W.Frag) : R2 := fun x y H Q => rI0 (fun i j => .int (i + j)) x y H Q ∨ (∃ i j, x = .str i ∧ y = .str j ∧ i.length + j.length ≤ sizeLine ∧ Q (.str (i ++ j)) H) ∨ rCatA K x y H Q ∨ rCat x y H Q
theorem op_addD : OpR X (binaryOp .Add) (rAddD X.K) := op_add.or (op_add_str.or (op_catA.or op_cat))
theorem r_add : Res2 K cl (rAddD K) oAdd := by
  intro d e z hz H G x y Q s hx hy q
  unfold oAdd at hz
  split at hz
  · rename_i i j
    cases hz
    exact .inl ⟨i, j, obs_int hx, obs_int hy, q _ H G (Grow.refl s) mk_int⟩
  · rename_i a b
    split at hz
    · rename_i hl
      cases hz
      exact .inr (.inl ⟨a, b, obs_str hx, obs_str hy, line_le hl, q _ H G (Grow.refl s) mk_str⟩)
    · cases hz
  · rename_i a b
    split at hz
    · rename_i hl
      cases hz
      obtain ⟨p, vs, rfl, h1, h2⟩ := obs_tup hx
      obtain ⟨p', us, rfl, h3, h4⟩ := obs_tup hy
      refine .inr (.inr (.inl ⟨p, p', vs, us, rfl, rfl, same_seqT s h1.sq, same_seqT s h3.sq, line_le (by rw [h2.length, h4.length]; exact hl), fun e => ?_, fun _ e => ?_, fun _ _ r hr => new_tup s hr (h2.append h4) q⟩))
      · have ea : a = [] := by
          have z := h2.length
          rw [e] at z
          exact List.length_eq_zero_iff.mp z.symm
        rw [ea, List.nil_append] at q
        exact q _ H G (Grow.refl s) (mk_tup h3 h4)
      · have eb : b = [] := by
          have z := h4.length
          rw [e] at z
          exact List.length_eq_zero_iff.mp z.symm
        rw [eb, List.append_nil] at q
        exact q _ H G (Grow.refl s) (mk_tup h1 h2)
    · cases hz
  · rename_i a b
    split at hz
    · rename_i hl
      cases hz
      obtain ⟨p, vs, rfl, h1, h2⟩ := obs_lst hx
      obtain ⟨p', us, rfl, h3, h4⟩ := obs_lst hy
      refine .inr (.inr (.inr ⟨p, p', vs, us, rfl, rfl, h1, h3, line_le (by rw [h2.length, h4.length]; exact hl), fun r hr => ?_⟩))
      exact q _ _ (upd G r (.lst (vs ++ us))) (Grow.laid s hr) (mk_lst upd_same ((h2.append h4).mono (same_upd (s.free hr))))
    · cases hz
  · cases hz
def oInt (C : Int → Int → Bool) (F : Int → Int → Int) (d e : D) : Option D := match d, e with
  | .int i, .int j => if C i j = true then some (.int (F i j)) else none
  | _, _ => none
theorem r_int {C : Int → Int → Bool} {C' : Int → Int → Prop} {F : Int → Int → Int} (hC : ∀ i j, C i j = true → C' i j) : Res2 K cl (rI C' fun i j => .int (F i j)) (oInt C F) := by
  intro d e z hz H G x y Q s hx hy q
  unfold oInt at hz
  split at hz
  · rename_i i j
    split at hz
    · rename_i hc
      cases hz
      exact ⟨i, j, obs_int hx, obs_int hy, hC i j hc, q _ H G (Grow.refl s) mk_int⟩
    · cases hz
  · cases hz
def oSub : D → D → Option D := oInt (fun _ _ => true) fun i j => i - j
theorem r_sub : Res2 K cl (rI0 fun i j => .int (i - j)) oSub := by
  intro d e z hz H G x y Q s hx hy q
  unfold oSub oInt at hz
  split at hz
  · rename_i i j
    cases hz
    exact ⟨i, j, obs_int hx, obs_int hy, q _ H G (Grow.refl s) mk_int⟩
  · cases hz
def oFdiv : D → D → Option D := oInt (fun _ j => decide (0 < j ∧ j < 1073741824)) fun i j => i / j
theorem r_fdiv : Res2 K cl (rI CDiv fun i j => .int (i / j)) oFdiv := r_int fun i j h => by
  have h' := of_decide_eq_true h
  exact h'
def oMod : D → D → Option D := oInt (fun _ j => decide (0 < j)) fun i j => i % j
theorem r_mod : Res2 K cl (rI (fun _ j => 0 < j) fun i j => .int (i % j)) oMod := r_int fun i j h => by simpa using h
def oPow : D → D → Option D := oInt (fun i j => decide (0 ≤ j ∧ j ≤ 1000000 ∧ i.natAbs < 18446744073709551616)) fun i j => i ^ j.toNat
theorem r_pow : Res2 K cl (rI CPow fun i j => .int (i ^ j.toNat)) oPow := r_int fun i j h => by
  have h' := of_decide_eq_true h
  exact ⟨h'.1, h'.2.1, h'.2.2⟩
def mulC (i j : Int) : Bool := decide ((-18446744073709551616 < i ∧ i < 18446744073709551616) ∨ (-18446744073709551616 < j ∧ j < 18446744073709551616))
theorem mulC_ok (i j : Int) (h : mulC i j = true) : CMul i j := by
  have h' := of_decide_eq_true h
  exact h'
def oMulI : D → D → Option D := oInt mulC fun i j => i * j
theorem r_mulI : Res2 K cl (rI CMul fun i j => .int (i * j)) oMulI := r_int mulC_ok
/-- [..] * k -/
def oRepL (d e : D) : Option (List D) := match d, e with
  | .lst a, .int k => if k < 16777216 ∧ -16777216 < k ∧ a.length * k.toNat ≤ 16777216 then some (List.replicate k.toNat a).flatten else none
  | _, _ => none
theorem Dens.rep {H : Hp} {ds : List D} {vs : List V} (h : Dens K cl H ds vs) : ∀ n : Nat, Dens K cl H (List.replicate n ds).flatten (List.replicate n vs).flatten
  | 0 => Dens.nil
  | n + 1 => by
    rw [List.replicate_succ, List.replicate_succ, List.flatten_cons, List.flatten_cons]
    exact h.append (Dens.rep h n)
theorem r_repL : ResF2 K cl rRep oRepL := by
  intro d e zs hz H G x y Q s hx hy q
  unfold oRepL at hz
  split at hz
  · rename_i a k
    split at hz
    · rename_i hl
      cases hz
      obtain ⟨p, vs, rfl, h1, h2⟩ := obs_lst hx
      exact ⟨p, k, vs, rfl, obs_int hy, h1, by omega, by omega, line_le (by rw [h2.length]; exact hl.2.2), fun r hr => new_lst s hr (h2.rep _) q⟩
    · cases hz
  · cases hz
/-! ### comparisons of ints and of texts -/
def oCmp (p : Int → Int → Bool) (d e : D) : Option D := match d, e with
  | .int i, .int j => some (.bl (p i j))
  | _, _ => none
theorem r_cmp {p : Int → Int → Bool} : Res2 K cl (rI0 fun i j => .bl (p i j)) (oCmp p) := by
  intro d e z hz H G x y Q s hx hy q
  unfold oCmp at hz
  split at hz
  · rename_i i j
    cases hz
    exact ⟨i, j, obs_int hx, obs_int hy, q _ H G (Grow.refl s) mk_bl⟩
  · cases hz
def oLt : D → D → Option D := oCmp fun i j => decide (i < j)
def oLe : D → D → Option D := oCmp fun i j => decide (i ≤ j)
def oGt : D → D → Option D := oCmp fun i j => decide (j < i)
def oGe : D → D → Option D := oCmp fun i j => decide (j ≤ i)
/-! ### == and != -/
mutual
def py : D → Option PyData
  | .non => some .none
  | .bl b => some (.bool b)
  | .int i => some (.int i)
  | .str x => some (.str x)
  | .tup ds => (pys ds).map .tuple
  | .lst ds => (pys ds).map .list
  | .fl ds => (pys ds).map .list
  | .ins _ _ => none
  | .dic _ _ => none
  | .ty _ => none
def pys : List D → Option (List PyData)
  | [] => some []
  | d :: ds => (py d).bind fun x => (pys ds).map fun r => x :: r
end
mutual
theorem py_dp {H : Hp} : ∀ (d : D) (x : PyData) (v : V), py d = some x → Den K cl H d v → Dp K H v x
  | .non, x, v, e, h => by
    rw [den_non h]
    simp only [py] at e
    cases e
    exact .non
  | .bl b, x, v, e, h => by
    rw [den_bl h]
    simp only [py] at e
    cases e
    exact .bl b
  | .int i, x, v, e, h => by
    rw [den_int h]
    simp only [py] at e
    cases e
    exact .int i
  | .str z, x, v, e, h => by
    rw [den_str h]
    simp only [py] at e
    cases e
    exact .str z
  | .tup ds, x, v, e, h => by
    obtain ⟨a, vs, rfl, h1, h2⟩ := den_tup h
    simp only [py] at e
    cases ee : pys ds with
    | none =>
      rw [ee] at e
      cases e
    | some xs =>
      rw [ee] at e
      cases e
      exact .tup h1.sq (pys_dp ds xs vs ee h2)
  | .lst ds, x, v, e, h => by
    obtain ⟨a, vs, rfl, h1, h2⟩ := den_lst h
    simp only [py] at e
    cases ee : pys ds with
    | none =>
      rw [ee] at e
      cases e
    | some xs =>
      rw [ee] at e
      cases e
      exact .lst (.inl (.inl h1)) (pys_dp ds xs vs ee h2)
  | .fl ds, x, v, e, h => by
    obtain ⟨a, vs, rfl, h1, h2⟩ := den_fl h
    simp only [py] at e
    cases ee : pys ds with
    | none =>
      rw [ee] at e
      cases e
    | some xs =>
      rw [ee] at e
      cases e
      exact .lst h1 (pys_dp ds xs vs ee h2)
  | .ins _ _, x, v, e, h => by
    simp only [py] at e
    cases e
  | .dic _ _, x, v, e, h => by
    simp only [py] at e
    cases e
  | .ty _, x, v, e, h => by
    simp only [py] at e
    cases e
theorem pys_dp {H : Hp} : ∀ (ds : List D) (xs : List PyData) (vs : List V), pys ds = some xs → Dens K cl H ds vs → DpAll K H vs xs
  | [], xs, vs, e, h => by
    simp only [Dens] at h
    simp only [pys] at e
    cases e
    rw [h]
    exact .nil
  | d :: ds, xs, vs, e, h => by
    simp only [Dens] at h
    obtain ⟨v, r, rfl, h1, h2⟩ := h
    simp only [pys] at e
    cases e1 : py d with
    | none =>
      rw [e1] at e
      cases e
    | some x =>
      cases e2 : pys ds with
      | none =>
        rw [e1, e2] at e
        cases e
      | some ys =>
        rw [e1, e2] at e
        cases e
        exact .cons (py_dp d x v e1 h1) (pys_dp ds ys r e2 h2)
end
theorem pyO_dp {G H : Hp} (s : Same G H) {d : D} {x : PyData} {v : V} (e : py d = some x) (h : Obs K cl G H d v) : Dp K H v x := py_dp d x v e (h.den s)
/-- equality of data as the model reckons it (nothing if it is not plain data) -/
def deq (d e : D) : Option Bool := match d, e with
  | .int i, .int j => some (decide (i = j))
  | .str x, .str y => some (decide (x = y))
  | .bl x, .bl y => some (decide (x = y))
  | .non, .non => some true
  | d, e => (py d).bind fun x => (py e).bind fun y => if SeqAt.shaped x = true ∧ SeqAt.shaped y = true then some (PyData.eqv x y) else none
def oEq (d e : D) : Option D := (deq d e).map .bl
def oNe (d e : D) : Option D := (deq d e).map fun b => .bl (!b)
def rEqB (K : PySem.W.Frag) : R2 := fun x y H Q => rEq x y H Q ∨ rEqD K x y H Q
def rNeB (K : PySem.W.Frag) : R2 := fun x y H Q => rNe x y H Q ∨ rNeD K x y H Q
theorem op_eqB (hu : X.A.units + 64 < cLine) : OpR X (compareOp .Eq) (rEqB X.K) := op_eq.or (op_eqD hu)
theorem op_neB (hu : X.A.units + 64 < cLine) : OpR X (compareOp .NotEq) (rNeB X.K) := op_ne.or (op_neD hu)
theorem deq_ok {d e : D} {b : Bool} (h : deq d e = some b) {H G : Hp} {x y : V} (s : Same G H) (hx : Obs K cl G H d x) (hy : Obs K cl G H e y) :
    (scal x y = true ∧ decide (x = y) = b) ∨ ∃ p q, Dp K H x p ∧ Dp K H y q ∧ SeqAt.shaped p = true ∧ SeqAt.shaped q = true ∧ PyData.eqv p q = b := by
  unfold deq at h
  split at h
  · cases h
    rw [obs_int hx, obs_int hy]
    exact .inl ⟨rfl, by simp⟩
  · cases h
    rw [obs_str hx, obs_str hy]
    exact .inl ⟨rfl, by simp⟩
  · cases h
    rw [obs_bl hx, obs_bl hy]
    exact .inl ⟨rfl, by simp⟩
  · cases h
    rw [obs_non hx, obs_non hy]
    exact .inr ⟨.none, .none, .non, .non, by decide +kernel, by decide +kernel, by simp [PyData.eqv]⟩
  · cases e1 : py d with
    | none =>
      rw [e1] at h
      cases h
    | some p =>
      cases e2 : py e with
      | none =>
        rw [e1, e2] at h
        cases h
      | some q =>
        rw [e1, e2, Option.bind_some, Option.bind_some] at h
        split at h
        · rename_i hs
          cases h
          exact .inr ⟨p, q, pyO_dp s e1 hx, pyO_dp s e2 hy, hs.1, hs.2, rfl⟩
        · cases h
theorem r_eq : Res2 K cl (rEqB K) oEq := by
  intro d e z hz H G x y Q s hx hy q
  unfold oEq at hz
  cases hd : deq d e with
  | none =>
    rw [hd] at hz
    cases hz
  | some b =>
    rw [hd] at hz
    cases hz
    have q' := q (.bl b) H G (Grow.refl s) mk_bl
    rcases deq_ok hd s hx hy with ⟨h1, h2⟩ | ⟨p, r, h1, h2, h3, h4, h5⟩
    · exact .inl ⟨h1, by rw [h2]; exact q'⟩
    · exact .inr ⟨p, r, h1, h2, h3, h4, by rw [h5]; exact q'⟩
theorem r_ne : Res2 K cl (rNeB K) oNe := by
  intro d e z hz H G x y Q s hx hy q
  unfold oNe at hz
  cases hd : deq d e with
  | none =>
    rw [hd] at hz
    cases hz
  | some b =>
    rw [hd] at hz
    cases hz
    have q' := q (.bl !b) H G (Grow.refl s) mk_bl
    rcases deq_ok hd s hx hy with ⟨h1, h2⟩ | ⟨p, r, h1, h2, h3, h4, h5⟩
    · exact .inl ⟨h1, by rw [h2]; exact q'⟩
    · exact .inr ⟨p, r, h1, h2, h3, h4, by rw [h5]; exact q'⟩
/-! ### is None -/
def isNonD : D → Bool
  | .non => true
  | _ => false
theorem isNon_ok {G H : Hp} {d : D} {x : V} (h : Obs K cl G H d x) : decide (x = .non) = isNonD d := by
  cases d with
  | non => rw [obs_non h]; rfl
  | bl b => rw [obs_bl h]; rfl
  | int i => rw [obs_int h]; rfl
  | str z => rw [obs_str h]; rfl
  | ty z => rw [obs_ty h]; rfl
  | tup ds =>
    obtain ⟨a, vs, rfl, _⟩ := obs_tup h
    rfl
  | lst ds =>
    obtain ⟨a, vs, rfl, _⟩ := obs_lst h
    rfl
  | fl ds =>
    obtain ⟨a, vs, rfl, _⟩ := obs_fl h
    rfl
  | ins c ds =>
    obtain ⟨a, dx, vs, rfl, _⟩ := obs_ins h
    rfl
  | dic ks ds =>
    obtain ⟨a, vs, rfl, _⟩ := obs_dic h
    rfl
def oIsN (d e : D) : Option D := match e with
  | .non => some (.bl (isNonD d))
  | _ => none
def oNotN (d e : D) : Option D := match e with
  | .non => some (.bl (!isNonD d))
  | _ => none
theorem r_isN : Res2 K cl (fun x y H Q => y = .non ∧ Q (.bl (decide (x = .non))) H) oIsN := by
  intro d e z hz H G x y Q s hx hy q
  unfold oIsN at hz
  split at hz
  · cases hz
    refine ⟨obs_non hy, ?_⟩
    rw [isNon_ok hx]
    exact q _ H G (Grow.refl s) mk_bl
  · cases hz
theorem r_notN : Res2 K cl (fun x y H Q => y = .non ∧ Q (.bl (!decide (x = .non))) H) oNotN := by
  intro d e z hz H G x y Q s hx hy q
  unfold oNotN at hz
  split at hz
  · cases hz
    refine ⟨obs_non hy, ?_⟩
    rw [isNon_ok hx]
    exact q _ H G (Grow.refl s) mk_bl
  · cases hz
/-! ### in -/
def flatD : D → Bool
  | .non | .bl _ | .int _ | .str _ => true
  | _ => false
def vOf : D → V
  | .non => .non
  | .bl b => .bl b
  | .int i => .int i
  | .str x => .str x
  | _ => .non
theorem flat_den {H : Hp} {d : D} {v : V} (h : Den K cl H d v) (f : flatD d = true) : v = vOf d ∧ flatV v = true := by
  cases d with
  | non => rw [den_non h]; exact ⟨rfl, rfl⟩
  | bl b => rw [den_bl h]; exact ⟨rfl, rfl⟩
  | int i => rw [den_int h]; exact ⟨rfl, rfl⟩
  | str z => rw [den_str h]; exact ⟨rfl, rfl⟩
  | _ => cases f
theorem flat_obs {G H : Hp} {d : D} {v : V} (h : Obs K cl G H d v) (f : flatD d = true) : v = vOf d ∧ flatV v = true := by
  cases d with
  | non => rw [obs_non h]; exact ⟨rfl, rfl⟩
  | bl b => rw [obs_bl h]; exact ⟨rfl, rfl⟩
  | int i => rw [obs_int h]; exact ⟨rfl, rfl⟩
  | str z => rw [obs_str h]; exact ⟨rfl, rfl⟩
  | _ => cases f
theorem flat_dens {H : Hp} : ∀ {ds : List D} {vs : List V}, Dens K cl H ds vs → ds.all flatD = true → vs = ds.map vOf ∧ vs.all flatV = true
  | [], _, h, _ => by
    simp only [Dens] at h
    rw [h]
    exact ⟨rfl, rfl⟩
  | d :: ds, _, h, f => by
    simp only [Dens] at h
    obtain ⟨v, r, rfl, h1, h2⟩ := h
    rw [List.all_cons, Bool.and_eq_true] at f
    obtain ⟨e1, e2⟩ := flat_den h1 f.1
    obtain ⟨e3, e4⟩ := flat_dens h2 f.2
    refine ⟨by rw [List.map_cons, ← e1, ← e3], ?_⟩
    rw [List.all_cons, e2, e4]
    rfl
def inD (x : D) (ys : List D) : Bool := inV (vOf x) (ys.map vOf)
def itemsOf : D → Option (List D)
  | .lst ds => some ds
  | .fl ds => some ds
  | .tup ds => some ds
  | _ => none
theorem items_ok {G H : Hp} (s : Same G H) {d : D} {ds : List D} {v : V} (h : Obs K cl G H d v) (e : itemsOf d = some ds) : ∃ a vs, v = .ref a ∧ (SqL K H a vs ∨ SqT K H a vs) ∧ Dens K cl G ds vs := by
  cases d with
  | lst es =>
    cases e
    obtain ⟨a, vs, rfl, h1, h2⟩ := obs_lst h
    exact ⟨a, vs, rfl, .inl (.inl (.inl h1)), h2⟩
  | fl es =>
    cases e
    obtain ⟨a, vs, rfl, h1, h2⟩ := obs_fl h
    exact ⟨a, vs, rfl, .inl (s.seq h1), h2⟩
  | tup es =>
    cases e
    obtain ⟨a, vs, rfl, h1, h2⟩ := obs_tup h
    exact ⟨a, vs, rfl, .inr (same_seqT s h1.sq), h2⟩
  | _ => cases e
def oIn (neg : Bool) (d e : D) : Option D := match d, e with
  | .str a, .str b => if neg then some (.bl (!(!(Builtin.Str.occurrences b a 0 b.length 1).isEmpty))) else some (.bl (!(Builtin.Str.occurrences b a 0 b.length 1).isEmpty))
  | d, e => (itemsOf e).bind fun ys => if flatD d = true ∧ ys.all flatD = true then some (.bl (if neg then !inD d ys else inD d ys)) else none
def rInD (K : PySem.W.Frag) : R2 := fun x y H Q => rIn K false x y H Q ∨ (∃ i j, x = .str i ∧ y = .str j ∧ Q (.bl (!(Builtin.Str.occurrences j i 0 j.length 1).isEmpty)) H)
def rNotInD (K : PySem.W.Frag) : R2 := fun x y H Q => rIn K true x y H Q ∨ (∃ i j, x = .str i ∧ y = .str j ∧ Q (.bl (!(!(Builtin.Str.occurrences j i 0 j.length 1).isEmpty))) H)
theorem op_inD : OpR X (compareOp .In) (rInD X.K) := op_in_seq.or op_in_str
theorem op_notInD : OpR X (compareOp .NotIn) (rNotInD X.K) := op_notIn_seq.or op_notIn_str
theorem r_in : Res2 K cl (rInD K) (oIn false) := by
  intro d e z hz H G x y Q s hx hy q
  unfold oIn at hz
  split at hz
  · rename_i a b
    cases hz
    exact .inr ⟨a, b, obs_str hx, obs_str hy, q _ H G (Grow.refl s) mk_bl⟩
  · cases e1 : itemsOf e with
    | none =>
      rw [e1] at hz
      cases hz
    | some ys =>
      rw [e1, Option.bind_some] at hz
      split at hz
      · rename_i hf
        cases hz
        obtain ⟨p, vs, rfl, h1, h2⟩ := items_ok s hy e1
        obtain ⟨e2, e3⟩ := flat_obs hx hf.1
        obtain ⟨e4, e5⟩ := flat_dens h2 hf.2
        refine .inl ⟨p, vs, rfl, h1, e3, e5, ?_⟩
        rw [e2, e4]
        exact q _ H G (Grow.refl s) mk_bl
      · cases hz
theorem r_notIn : Res2 K cl (rNotInD K) (oIn true) := by
  intro d e z hz H G x y Q s hx hy q
  unfold oIn at hz
  split at hz
  · rename_i a b
    cases hz
    exact .inr ⟨a, b, obs_str hx, obs_str hy, q _ H G (Grow.refl s) mk_bl⟩
  · cases e1 : itemsOf e with
    | none =>
      rw [e1] at hz
      cases hz
    | some ys =>
      rw [e1, Option.bind_some] at hz
      split at hz
      · rename_i hf
        cases hz
        obtain ⟨p, vs, rfl, h1, h2⟩ := items_ok s hy e1
        obtain ⟨e2, e3⟩ := flat_obs hx hf.1
        obtain ⟨e4, e5⟩ := flat_dens h2 hf.2
        refine .inl ⟨p, vs, rfl, h1, e3, e5, ?_⟩
        rw [e2, e4]
        exact q _ H G (Grow.refl s) mk_bl
      · cases hz
/-! ### items, slices -/
/-- the item at an index of any sign -/
def ixD (xs : List D) (i : Int) : Option D := if 0 ≤ i then xs[i.toNat]? else if -(xs.length : Int) ≤ i then xs[(i + xs.length).toNat]? else none
theorem ixD_ok {H : Hp} {ds : List D} {vs : List V} {i : Int} {d : D} (h : Dens K cl H ds vs) (e : ixD ds i = some d) : ∃ v, atI vs i = some v ∧ Den K cl H d v := by
  have hl := h.length
  unfold ixD at e
  unfold atI ixN
  by_cases h0 : 0 ≤ i
  · rw [if_pos h0] at e
    obtain ⟨v, e1, e2⟩ := h.get' e
    have hlt : i.toNat < vs.length := (List.getElem?_eq_some_iff.mp e1).1
    rw [if_pos h0, if_pos (by omega), Option.bind_some]
    exact ⟨v, e1, e2⟩
  · rw [if_neg h0] at e
    split at e
    · rename_i h1
      obtain ⟨v, e1, e2⟩ := h.get' e
      rw [if_neg h0, if_pos (by rw [hl]; exact h1), Option.bind_some, hl]
      exact ⟨v, e1, e2⟩
    · cases e
def oIx (d e : D) : Option D := match d, e with
  | .str z, .int i => if z.length ≤ 16777216 then (atI z.cps.toList i).map fun c => .str ⟨#[c]⟩ else none
  | d, .int i => (itemsOf d).bind fun ds => ixD ds i
  | _, _ => none
theorem r_ix : Res2 K cl (rIx K) oIx := by
  intro d e z hz H G x y Q s hx hy q
  unfold oIx at hz
  split at hz
  · rename_i a i
    split at hz
    · rename_i hl
      cases ea : atI a.cps.toList i with
      | none =>
        rw [ea] at hz
        cases hz
      | some c =>
        rw [ea] at hz
        cases hz
        exact .inr (.inr ⟨a, i, c, obs_str hx, obs_int hy, line_le hl, ea, q _ H G (Grow.refl s) mk_str⟩)
    · cases hz
  · rename_i i _
    cases e1 : itemsOf d with
    | none =>
      rw [e1] at hz
      cases hz
    | some ys =>
      rw [e1, Option.bind_some] at hz
      obtain ⟨p, vs, rfl, h1, h2⟩ := items_ok s hx e1
      obtain ⟨v, e2, e3⟩ := ixD_ok h2 hz
      rcases h1 with h1 | h1
      · exact .inl ⟨p, vs, i, v, rfl, obs_int hy, h1, e2, q _ H G (Grow.refl s) e3⟩
      · exact .inr (.inl ⟨p, vs, i, v, rfl, obs_int hy, h1, e2, q _ H G (Grow.refl s) e3⟩)
  · cases hz
def cutD (xs : List D) (lo hi : Option Int) : List D := (xs.drop (HT.sIx xs.length 0 lo)).take (HT.sIx xs.length xs.length hi - HT.sIx xs.length 0 lo)
theorem cutD_ok {H : Hp} {ds : List D} {vs : List V} (h : Dens K cl H ds vs) (lo hi : Option Int) : Dens K cl H (cutD ds lo hi) (cutV vs lo hi) := by
  unfold cutD cutV
  rw [h.length]
  exact (h.drop _).take _
end
end Fw

/-! Fw2: arguments, calls of built-ins, displays, items, tests. -/
namespace Fw
open PySem PySem.Spec PyProof.Rows L2

/-! ### arguments -/
def ObsL (K : PySem.W.Frag) (cl : Nat → ClsT) (G H : Hp) : List D → List V → Prop
  | [], vs => vs = []
  | d :: ds, vs => ∃ v r, vs = v :: r ∧ Obs K cl G H d v ∧ ObsL K cl G H ds r
theorem ObsL.mono {K : PySem.W.Frag} {cl : Nat → ClsT} {G G' H H' : Hp} (hg : Same G G') (hh : Same H H') : ∀ {ds : List D} {vs : List V}, ObsL K cl G H ds vs → ObsL K cl G' H' ds vs
  | [], _, h => h
  | _ :: _, _, ⟨v, r, e, h1, h2⟩ => ⟨v, r, e, h1.mono hg hh, h2.mono hg hh⟩
def tAo (K : PySem.W.Frag) (w : Wd) (f : Af) : TA := fun σ H Q => ∃ ρ G ds, Rep K w σ H G ρ ∧ f ρ = some ds ∧ ∀ vs H' G', Grow H G H' G' → ObsL K w.cl G' H' ds vs → Q vs H'
abbrev VAo (w : Wd) (X : Cx) (es : List Expr) (f : Af) : Prop := PA X es (tAo X.K w f)
def aNil : Af := fun _ => some []
def aCons (f : Ef) (g : Af) : Af := fun ρ => (f ρ).bind fun d => (g ρ).map fun ds => d :: ds
theorem aCons_some {f : Ef} {g : Af} {ρ : Env} {ds : List D} (h : aCons f g ρ = some ds) : ∃ d r, f ρ = some d ∧ g ρ = some r ∧ ds = d :: r := by
  unfold aCons at h
  cases e1 : f ρ with
  | none =>
    rw [e1] at h
    cases h
  | some d =>
    cases e2 : g ρ with
    | none =>
      rw [e1, e2] at h
      cases h
    | some r =>
      rw [e1, e2] at h
      cases h
      exact ⟨d, r, rfl, rfl, rfl⟩
section
variable {X : Cx} {w : Wd} {e ea eb : Expr} {es : List Expr} {f g : Ef} {fs : Af} {pos p : Pos} {x : Str}
theorem va_nil : VA w X [] aNil := PA.imp pa_nil fun σ H Q ⟨ρ, G, ds, r, hf, q⟩ => by
  cases hf
  exact q [] H G (Grow.refl r.base.sub) Dens.nil
theorem va_cons (h : VE w X e f) (t : VA w X es fs) (hs : starEach (e :: es) X.env = (false, eval e X.env) :: starEach es X.env := by rfl) : VA w X (e :: es) (aCons f fs) := PA.imp (pa_cons h t hs) fun σ H Q ⟨ρ, G, ds, r, hf, q⟩ => by
  obtain ⟨d, l, e1, e2, rfl⟩ := aCons_some hf
  refine seqE r e1 fun v H1 G1 g1 r1 z1 => ?_
  exact ⟨ρ, G1, l, r1, e2, fun vs H2 G2 g2 z2 => q (v :: vs) H2 G2 (g1.trans g2) (Dens.cons (z1.mono g2.gg) z2)⟩
theorem vo_nil : VAo w X [] aNil := PA.imp pa_nil fun σ H Q ⟨ρ, G, ds, r, hf, q⟩ => by
  cases hf
  exact q [] H G (Grow.refl r.base.sub) rfl
theorem vo_cons (h : VO w X e f) (t : VAo w X es fs) (hs : starEach (e :: es) X.env = (false, eval e X.env) :: starEach es X.env := by rfl) : VAo w X (e :: es) (aCons f fs) := PA.imp (pa_cons h t hs) fun σ H Q ⟨ρ, G, ds, r, hf, q⟩ => by
  obtain ⟨d, l, e1, e2, rfl⟩ := aCons_some hf
  refine seqO r e1 fun v H1 G1 g1 r1 z1 => ?_
  exact ⟨ρ, G1, l, r1, e2, fun vs H2 G2 g2 z2 => q (v :: vs) H2 G2 (g1.trans g2) ⟨v, vs, rfl, z1.mono g2.gg g2.hh, z2⟩⟩

/-! ### displays -/
def eTup (f : Af) : Ef := fun ρ => (f ρ).bind fun ds => if ds.length ≤ 16777216 then some (.tup ds) else none
theorem ve_tup {k : Nat} (h : VA w X es fs) : VE w X (.Tuple es k pos) (eTup fs) := PE.imp (pe_tup h) fun σ H Q ⟨ρ, G, d, r, hf, q⟩ => by
  unfold eTup at hf
  cases e1 : fs ρ with
  | none =>
    rw [e1] at hf
    cases hf
  | some ds =>
    rw [e1, Option.bind_some] at hf
    split at hf
    · rename_i hl
      cases hf
      refine ⟨ρ, G, _, r, e1, fun vs H1 G1 g1 z1 => ⟨line_le (by rw [z1.length]; exact hl), fun a ha => ?_⟩⟩
      exact new_tup g1.sub ha z1 fun v H' G' g' z' => q v H' G' (g1.trans g') z'
    · cases hf
def aLst (f : Af) : Af := fun ρ => (f ρ).bind fun ds => if ds.length ≤ 16777216 then some ds else none
theorem vf_lst (h : VA w X es fs) : VF w X (.List es pos) (aLst fs) := PE.imp (pe_lst h) fun σ H Q ⟨ρ, G, d, r, hf, q⟩ => by
  unfold aLst at hf
  cases e1 : fs ρ with
  | none =>
    rw [e1] at hf
    cases hf
  | some ds =>
    rw [e1, Option.bind_some] at hf
    split at hf
    · rename_i hl
      cases hf
      refine ⟨ρ, G, _, r, e1, fun vs H1 G1 g1 z1 => ⟨line_le (by rw [z1.length]; exact hl), fun a ha => ?_⟩⟩
      exact new_lst g1.sub ha z1 fun a us H' G' g' h0 h1 h2 z' => q a us H' G' (g1.trans g') (g1.hh.free h0) h1 h2 z'
    · cases hf

/-! ### two operands with a new list -/
def aBin (o : D → D → Option (List D)) (f g : Ef) : Af := fun ρ => (f ρ).bind fun a => (g ρ).bind fun b => o a b
theorem aBin_some {o : D → D → Option (List D)} {ρ : Env} {z : List D} (h : aBin o f g ρ = some z) : ∃ a b, f ρ = some a ∧ g ρ = some b ∧ o a b = some z := by
  unfold aBin at h
  cases hf : f ρ with
  | none =>
    rw [hf] at h
    cases h
  | some a =>
    cases hg : g ρ with
    | none =>
      rw [hf] at h
      rw [Option.bind_some, hg] at h
      cases h
    | some b =>
      rw [hf, Option.bind_some, hg, Option.bind_some] at h
      exact ⟨a, b, rfl, rfl, h⟩
theorem vf_bin {op : Operator} {r : R2} {o : D → D → Option (List D)} (ho : OpR X (binaryOp op) r) (hr : ResF2 X.K w.cl r o) (ha : VO w X ea f) (hb : VO w X eb g) : VF w X (.BinOp ea op eb pos) (aBin o f g) :=
  PE.imp (pe_op ho ha hb) fun σ H Q ⟨ρ, G, z, rp, hf, q⟩ => by
    obtain ⟨a, b, fa, gb, hz⟩ := aBin_some hf
    refine seqO rp fa fun x H1 G1 g1 r1 z1 => ?_
    refine seqO r1 gb fun y H2 G2 g2 r2 z2 => ?_
    exact hr a b z hz H2 G2 x y Q g2.sub (z1.mono g2.gg g2.hh) z2 fun a vs H' G' g' h0 h1 h2 zz => q a vs H' G' (g1.trans (g2.trans g')) (g1.hh.free (g2.hh.free h0)) h1 h2 zz

/-! ### one operand -/
def e1o (o : D → Option D) (f : Ef) : Ef := fun ρ => (f ρ).bind o
def oNeg : D → Option D
  | .int i => some (.int (-i))
  | _ => none
theorem ve_neg (ha : VO w X ea f) : VE w X (.UnaryOp .USub ea pos) (e1o oNeg f) := PE.imp (pe_un un_neg ha) fun σ H Q ⟨ρ, G, z, rp, hf, q⟩ => by
  unfold e1o at hf
  cases e1 : f ρ with
  | none =>
    rw [e1] at hf
    cases hf
  | some d =>
    rw [e1, Option.bind_some] at hf
    unfold oNeg at hf
    split at hf
    · rename_i i
      cases hf
      exact seqO rp e1 fun v H1 G1 g1 r1 z1 => ⟨i, obs_int z1, q _ H1 G1 g1 mk_int⟩
    · cases hf

/-! ### items, slices -/
theorem ve_ix (ha : VO w X ea f) (hb : VO w X eb g) (hs : PlainIx eb) : VE w X (.Subscript ea eb pos) (eBin oIx f g) := PE.imp (pe_ix ix_seq ha hb hs) (op2_imp r_ix)
def tPart (K : PySem.W.Frag) (w : Wd) (f : Env → Option (Option Int)) : TO := fun σ H Q => ∃ ρ G o, Rep K w σ H G ρ ∧ f ρ = some o ∧ ∀ H' G', Grow H G H' G' → Q o H'
abbrev VP (w : Wd) (X : Cx) (e : Option Expr) (f : Env → Option (Option Int)) : Prop := PO X e (tPart X.K w f)
theorem PO.imp {e : Option Expr} {t t' : TO} (h : PO X e t) (hi : ∀ σ H Q, t' σ H Q → t σ H Q) : PO X e t' := ⟨fun pins s σ H Q I q => h.run pins s σ H Q I (hi _ _ _ q)⟩
def pNo : Env → Option (Option Int) := fun _ => some none
def asI : Option D → Option Int
  | some (.int i) => some i
  | _ => none
theorem asI_some {o : Option D} {i : Int} (h : asI o = some i) : o = some (.int i) := by
  unfold asI at h
  split at h
  · cases h
    rfl
  · cases h
def pSome (f : Ef) : Env → Option (Option Int) := fun ρ => (asI (f ρ)).map some
theorem vp_no : VP w X none pNo := PO.imp po_none fun σ H Q ⟨ρ, G, o, rp, hf, q⟩ => by
  cases hf
  exact q H G (Grow.refl rp.base.sub)
theorem vp_some (h : VO w X e f) : VP w X (some e) (pSome f) := PO.imp (po_some h) fun σ H Q ⟨ρ, G, o, rp, hf, q⟩ => by
  unfold pSome at hf
  cases e1 : asI (f ρ) with
  | none =>
    rw [e1] at hf
    cases hf
  | some i =>
    rw [e1] at hf
    cases hf
    exact seqO rp (asI_some e1) fun v H1 G1 g1 r1 z1 => ⟨i, obs_int z1, q H1 G1 g1⟩
def oSl (d : D) (lo hi : Option Int) : Option D := match d with
  | .str z => if z.length ≤ 16777216 then some (.str (cutS z lo hi)) else none
  | .tup ds => some (.tup (cutD ds lo hi))
  | _ => none
def rSlD (K : PySem.W.Frag) : V → Option Int → Option Int → Hp → VK → Prop := fun x lo hi H Q => rSlA K x lo hi H Q ∨ rSlS x lo hi H Q
theorem sl_D : SlR X (rSlD X.K) := sl_tupA.or sl_str
def eSl (o : D → Option Int → Option Int → Option D) (f : Ef) (l h : Env → Option (Option Int)) : Ef := fun ρ => (f ρ).bind fun d => (l ρ).bind fun a => (h ρ).bind fun b => o d a b
def aSl (f : Ef) (l h : Env → Option (Option Int)) : Af := fun ρ => match f ρ with
  | some (.lst ds) => (l ρ).bind fun a => (h ρ).map fun b => cutD ds a b
  | some (.fl ds) => (l ρ).bind fun a => (h ρ).map fun b => cutD ds a b
  | _ => none
theorem cutV_whole {xs : List V} {lo hi : Option Int} (h : HT.sIx xs.length 0 lo = 0 ∧ HT.sIx xs.length xs.length hi = xs.length) : cutV xs lo hi = xs := by
  unfold cutV
  rw [h.1, h.2, List.drop_zero, Nat.sub_zero, List.take_length]
theorem cutD_whole {xs : List D} {lo hi : Option Int} (h : HT.sIx xs.length 0 lo = 0 ∧ HT.sIx xs.length xs.length hi = xs.length) : cutD xs lo hi = xs := by
  unfold cutD
  rw [h.1, h.2, List.drop_zero, Nat.sub_zero, List.take_length]
theorem ve_sl {lo hi : Option Expr} {pl ph : Env → Option (Option Int)} {p2 : Pos} (ha : VO w X ea f) (hl : VP w X lo pl) (hh : VP w X hi ph) : VE w X (.Subscript ea (.Slice lo hi none p2) pos) (eSl oSl f pl ph) :=
  PE.imp (pe_slice sl_D ha hl hh) fun σ H Q ⟨ρ, G, z, rp, hf, q⟩ => by
    unfold eSl at hf
    cases e1 : f ρ with
    | none =>
      rw [e1] at hf
      cases hf
    | some d =>
      cases e2 : pl ρ with
      | none =>
        rw [e1, Option.bind_some, e2] at hf
        cases hf
      | some a =>
        cases e3 : ph ρ with
        | none =>
          rw [e1, Option.bind_some, e2, Option.bind_some, e3] at hf
          cases hf
        | some b =>
          rw [e1, Option.bind_some, e2, Option.bind_some, e3, Option.bind_some] at hf
          refine seqO rp e1 fun v H1 G1 g1 r1 z1 => ?_
          refine ⟨ρ, G1, a, r1, e2, fun H2 G2 g2 => ⟨ρ, G2, b, r1.go g2, e3, fun H3 G3 g3 => ?_⟩⟩
          have z3 := z1.mono (g2.trans g3).gg (g2.trans g3).hh
          have gg := g1.trans (g2.trans g3)
          unfold oSl at hf
          split at hf
          · rename_i s
            split at hf
            · rename_i hl
              cases hf
              exact .inr ⟨s, obs_str z3, line_le hl, q _ H3 G3 gg mk_str⟩
            · cases hf
          · rename_i ds
            cases hf
            obtain ⟨p, vs, rfl, h1, h2⟩ := obs_tup z3
            refine .inl ⟨p, vs, rfl, same_seqT g3.sub h1.sq, fun hw => ?_, fun _ r hr => ?_⟩
            · refine q _ H3 G3 gg (mk_tup h1 ?_)
              have hw' := hw
              rw [h2.length] at hw'
              rw [cutD_whole hw']
              exact h2
            · exact new_tup g3.sub hr (cutD_ok h2 a b) fun v H' G' g' z' => q v H' G' (gg.trans g') z'
          · cases hf
theorem vf_sl {lo hi : Option Expr} {pl ph : Env → Option (Option Int)} {p2 : Pos} (ha : VO w X ea f) (hl : VP w X lo pl) (hh : VP w X hi ph) : VF w X (.Subscript ea (.Slice lo hi none p2) pos) (aSl f pl ph) :=
  PE.imp (pe_slice sl_list ha hl hh) fun σ H Q ⟨ρ, G, z, rp, hf, q⟩ => by
    have key : ∀ (d : D) (ds : List D), f ρ = some d → itemsOf d = some ds → (d = .lst ds ∨ d = .fl ds) → ((pl ρ).bind fun a => (ph ρ).map fun b => cutD ds a b) = some z →
        tSl (rSlL X.K) (tO X.K w f) (tPart X.K w pl) (tPart X.K w ph) σ H Q := by
      intro d ds e1 ei ed hf
      cases e2 : pl ρ with
      | none =>
        rw [e2] at hf
        cases hf
      | some a =>
        cases e3 : ph ρ with
        | none =>
          rw [e2, Option.bind_some, e3] at hf
          cases hf
        | some b =>
          rw [e2, Option.bind_some, e3] at hf
          cases hf
          refine seqO rp e1 fun v H1 G1 g1 r1 z1 => ?_
          refine ⟨ρ, G1, a, r1, e2, fun H2 G2 g2 => ⟨ρ, G2, b, r1.go g2, e3, fun H3 G3 g3 => ?_⟩⟩
          have z3 := z1.mono (g2.trans g3).gg (g2.trans g3).hh
          have gg := g1.trans (g2.trans g3)
          have : ∃ a' vs, v = .ref a' ∧ SqL X.K H3 a' vs ∧ Dens X.K w.cl G3 ds vs := by
            rcases ed with rfl | rfl
            · obtain ⟨a', vs, e, h1, h2⟩ := obs_lst z3
              exact ⟨a', vs, e, .inl (.inl h1), h2⟩
            · obtain ⟨a', vs, e, h1, h2⟩ := obs_fl z3
              exact ⟨a', vs, e, g3.sub.seq h1, h2⟩
          obtain ⟨p, vs, rfl, h1, h2⟩ := this
          exact ⟨p, vs, rfl, h1, fun r hr => new_lst g3.sub hr (cutD_ok h2 a b) fun a us H' G' g' h0 h1 h2 z' => q a us H' G' (gg.trans g') (gg.hh.free h0) h1 h2 z'⟩
    unfold aSl at hf
    split at hf
    · rename_i ds e1
      exact key _ ds e1 rfl (.inl rfl) hf
    · rename_i ds e1
      exact key _ ds e1 rfl (.inr rfl) hf
    · cases hf

/-! ### and, or, not, if .. else -/
def eAnd (f g : Ef) : Ef := fun ρ => match f ρ with
  | some (.bl true) => g ρ
  | some (.bl false) => some (.bl false)
  | _ => none
def eOr (f g : Ef) : Ef := fun ρ => match f ρ with
  | some (.bl true) => some (.bl true)
  | some (.bl false) => g ρ
  | _ => none
def oNot : D → Option D
  | .bl b => some (.bl (!b))
  | _ => none
theorem ve_one {op} (h : VE w X e f) : VE w X (.BoolOp op [e] pos) f := pe_one h
theorem ve_and {rest : List Expr} (ha : VE w X ea f) (hb : VE w X (.BoolOp .And (eb :: rest) pos) g) : VE w X (.BoolOp .And (ea :: eb :: rest) pos) (eAnd f g) := PE.imp (pe_and ha hb) fun σ H Q ⟨ρ, G, z, rp, hf, q⟩ => by
  unfold eAnd at hf
  split at hf
  · rename_i e1
    exact seqE rp e1 fun v H1 G1 g1 r1 z1 => ⟨true, den_bl z1, iteT ⟨ρ, G1, z, r1, hf, fun v H2 G2 g2 => q v H2 G2 (g1.trans g2)⟩⟩
  · rename_i e1
    cases hf
    exact seqE rp e1 fun v H1 G1 g1 r1 z1 => ⟨false, den_bl z1, iteF (q _ H1 G1 g1 mk_bl)⟩
  · cases hf
theorem ve_or {rest : List Expr} (ha : VE w X ea f) (hb : VE w X (.BoolOp .Or (eb :: rest) pos) g) : VE w X (.BoolOp .Or (ea :: eb :: rest) pos) (eOr f g) := PE.imp (pe_or ha hb) fun σ H Q ⟨ρ, G, z, rp, hf, q⟩ => by
  unfold eOr at hf
  split at hf
  · rename_i e1
    cases hf
    exact seqE rp e1 fun v H1 G1 g1 r1 z1 => ⟨true, den_bl z1, iteT (q _ H1 G1 g1 mk_bl)⟩
  · rename_i e1
    exact seqE rp e1 fun v H1 G1 g1 r1 z1 => ⟨false, den_bl z1, iteF ⟨ρ, G1, z, r1, hf, fun v H2 G2 g2 => q v H2 G2 (g1.trans g2)⟩⟩
  · cases hf
theorem ve_not (ha : VE w X ea f) : VE w X (.UnaryOp .Not ea pos) (e1o oNot f) := PE.imp (pe_not ha) fun σ H Q ⟨ρ, G, z, rp, hf, q⟩ => by
  unfold e1o at hf
  cases e1 : f ρ with
  | none =>
    rw [e1] at hf
    cases hf
  | some d =>
    rw [e1, Option.bind_some] at hf
    unfold oNot at hf
    split at hf
    · rename_i b
      cases hf
      exact seqE rp e1 fun v H1 G1 g1 r1 z1 => ⟨b, den_bl z1, q _ H1 G1 g1 mk_bl⟩
    · cases hf
def tAndF (f g : Tf) : Tf := fun ρ => match f ρ with
  | some true => g ρ
  | some false => some false
  | none => none
def tOrF (f g : Tf) : Tf := fun ρ => match f ρ with
  | some true => some true
  | some false => g ρ
  | none => none
def tNotF (f : Tf) : Tf := fun ρ => (f ρ).map fun b => !b
theorem vw_and1 {t : Tf} (h : VT w X e t) : VW w X (.BoolOp .And [e] pos) t := pw_and1 h
theorem vw_or1 {t : Tf} (h : VT w X e t) : VW w X (.BoolOp .Or [e] pos) t := pw_or1 h
theorem seqT {K : PySem.W.Frag} {σ : L2.St} {H G : Hp} {ρ : Env} {t : Tf} {b : Bool} {Q : Bool → Hp → Prop} (r : Rep K w σ H G ρ) (hf : t ρ = some b) (q : ∀ H' G', Grow H G H' G' → Rep K w σ H' G' ρ → Q b H') : tT K w t σ H Q :=
  ⟨ρ, G, b, r, hf, fun H' G' g => q H' G' g (r.go g)⟩
theorem vw_and {rest : List Expr} {t u : Tf} (ha : VT w X ea t) (hb : VW w X (.BoolOp .And (eb :: rest) pos) u) : VW w X (.BoolOp .And (ea :: eb :: rest) pos) (tAndF t u) := PW.imp (pw_and ha hb) fun σ H Q ⟨ρ, G, z, rp, hf, q⟩ => by
  unfold tAndF at hf
  split at hf
  · rename_i e1
    exact seqT rp e1 fun H1 G1 g1 r1 => iteT ⟨ρ, G1, z, r1, hf, fun H2 G2 g2 => q H2 G2 (g1.trans g2)⟩
  · rename_i e1
    cases hf
    exact seqT rp e1 fun H1 G1 g1 r1 => iteF (q H1 G1 g1)
  · cases hf
theorem vw_or {rest : List Expr} {t u : Tf} (ha : VT w X ea t) (hb : VW w X (.BoolOp .Or (eb :: rest) pos) u) : VW w X (.BoolOp .Or (ea :: eb :: rest) pos) (tOrF t u) := PW.imp (pw_or ha hb) fun σ H Q ⟨ρ, G, z, rp, hf, q⟩ => by
  unfold tOrF at hf
  split at hf
  · rename_i e1
    cases hf
    exact seqT rp e1 fun H1 G1 g1 r1 => iteT (q H1 G1 g1)
  · rename_i e1
    exact seqT rp e1 fun H1 G1 g1 r1 => iteF ⟨ρ, G1, z, r1, hf, fun H2 G2 g2 => q H2 G2 (g1.trans g2)⟩
  · cases hf
theorem vt_w {t : Tf} (h : VW w X e t) : VT w X e t := h.pt
theorem vt_not {t : Tf} (h : VT w X e t) : VT w X (.UnaryOp .Not e pos) (tNotF t) := PT.imp (pt_not h) fun σ H Q ⟨ρ, G, z, rp, hf, q⟩ => by
  unfold tNotF at hf
  cases e1 : t ρ with
  | none =>
    rw [e1] at hf
    cases hf
  | some b =>
    rw [e1] at hf
    cases hf
    exact seqT rp e1 fun H1 G1 g1 r1 => q H1 G1 g1
def eIf (t : Tf) (f g : Ef) : Ef := fun ρ => match t ρ with
  | some true => f ρ
  | some false => g ρ
  | none => none
theorem ve_if {c : Expr} {t : Tf} (hc : VT w X c t) (ha : VE w X ea f) (hb : VE w X eb g) : VE w X (.IfExp c ea eb pos) (eIf t f g) := PE.imp (pe_ifExp hc ha hb) fun σ H Q ⟨ρ, G, z, rp, hf, q⟩ => by
  unfold eIf at hf
  split at hf
  · rename_i e1
    exact seqT rp e1 fun H1 G1 g1 r1 => iteT ⟨ρ, G1, z, r1, hf, fun v H2 G2 g2 => q v H2 G2 (g1.trans g2)⟩
  · rename_i e1
    exact seqT rp e1 fun H1 G1 g1 r1 => iteF ⟨ρ, G1, z, r1, hf, fun v H2 G2 g2 => q v H2 G2 (g1.trans g2)⟩
  · cases hf
/-- a < b < c -/
def tChainF (o o' : D → D → Option D) (f g h : Ef) : Ef := fun ρ => (f ρ).bind fun a => (g ρ).bind fun b => match o a b with
  | some (.bl true) => (h ρ).bind fun c => o' b c
  | some (.bl false) => some (.bl false)
  | _ => none
end
end Fw

/-! Fw3: calls of built-ins; statements; loops; comprehensions; defs. -/
namespace Fw
open PySem PySem.Spec PyProof.Rows L2

/-! ### built-ins -/
def ResC (K : PySem.W.Frag) (cl : Nat → ClsT) (r : List V → Hp → VK → Prop) (o : List D → Option D) : Prop :=
  ∀ (ds : List D) (z : D), o ds = some z → ∀ (H G : Hp) (vs : List V) (Q : VK), Same G H → ObsL K cl G H ds vs → (∀ v H' G', Grow H G H' G' → Den K cl G' z v → Q v H') → r vs H Q
def ResCF (K : PySem.W.Frag) (cl : Nat → ClsT) (r : List V → Hp → VK → Prop) (o : List D → Option (List D)) : Prop :=
  ∀ (ds : List D) (zs : List D), o ds = some zs → ∀ (H G : Hp) (vs : List V) (Q : VK), Same G H → ObsL K cl G H ds vs →
    (∀ a us H' G', Grow H G H' G' → H a = none → H' a = some (.lst us) → G' a = none → Dens K cl G' zs us → Q (.ref a) H') → r vs H Q
def eArgs (o : List D → Option D) (f : Af) : Ef := fun ρ => (f ρ).bind o
def aArgs (o : List D → Option (List D)) (f : Af) : Af := fun ρ => (f ρ).bind o
section
variable {X : Cx} {w : Wd} {e ea eb : Expr} {es : List Expr} {f g : Ef} {fs : Af} {pos p : Pos} {x : Str} {K : PySem.W.Frag} {cl : Nat → ClsT} {id : String}
theorem callC_imp {r : List V → Hp → VK → Prop} {o : List D → Option D} (hr : ResC K w.cl r o) : ∀ σ H Q, tP K w (eArgs o fs) σ H Q → tCB r (tAo K w fs) σ H Q := fun σ H Q ⟨ρ, G, z, rp, hf, q⟩ => by
  unfold eArgs at hf
  cases e1 : fs ρ with
  | none =>
    rw [e1] at hf
    cases hf
  | some ds =>
    rw [e1, Option.bind_some] at hf
    exact ⟨ρ, G, ds, rp, e1, fun vs H1 G1 g1 z1 => hr ds z hf H1 G1 vs Q g1.sub z1 fun v H' G' g' zz => q v H' G' (g1.trans g') zz⟩
theorem callCF_imp {r : List V → Hp → VK → Prop} {o : List D → Option (List D)} (hr : ResCF K w.cl r o) : ∀ σ H Q, tF K w (aArgs o fs) σ H Q → tCB r (tAo K w fs) σ H Q := fun σ H Q ⟨ρ, G, z, rp, hf, q⟩ => by
  unfold aArgs at hf
  cases e1 : fs ρ with
  | none =>
    rw [e1] at hf
    cases hf
  | some ds =>
    rw [e1, Option.bind_some] at hf
    exact ⟨ρ, G, ds, rp, e1, fun vs H1 G1 g1 z1 => hr ds z hf H1 G1 vs Q g1.sub z1 fun a us H' G' g' h0 h1 h2 zz => q a us H' G' (g1.trans g') (g1.hh.free h0) h1 h2 zz⟩
theorem ve_callB {r : List V → Hp → VK → Prop} {o : List D → Option D} (hc : CallR X (.builtin id) r) (hr : ResC X.K w.cl r o) (hg : Gl X x) (hm : X.mg x = none) (hv : bootBuiltins x = some (.builtin id)) (ha : VAo w X (e :: es) fs) (hn : x ≠ "__name__" := by decide) (hdb : (x == ("__debug__" : Str)) = false := by decide)
    (he : starEach (e :: es) X.env = (false, eval e X.env) :: starEach es X.env := by rfl) (hpl : (backTo pos (starEach es X.env)).any (·.1) = false := by rfl) : VE w X (.Call (.Name x p) (e :: es) [] pos) (eArgs o fs) :=
  PE.imp (pe_callB hc hg hm hv ha hn hdb he hpl) (callC_imp hr)
theorem ve_callTy {r : List V → Hp → VK → Prop} {o : List D → Option D} (hc : CallR X (.type id) r) (hr : ResC X.K w.cl r o) (hg : Gl X x) (hm : X.mg x = none) (hv : bootBuiltins x = some (.type id)) (ha : VAo w X (e :: es) fs) (hn : x ≠ "__name__" := by decide) (hdb : (x == ("__debug__" : Str)) = false := by decide)
    (he : starEach (e :: es) X.env = (false, eval e X.env) :: starEach es X.env := by rfl) (hpl : (backTo pos (starEach es X.env)).any (·.1) = false := by rfl) : VE w X (.Call (.Name x p) (e :: es) [] pos) (eArgs o fs) :=
  PE.imp (pe_callTy hc hg hm hv ha hn hdb he hpl) (callC_imp hr)
theorem vf_callB {r : List V → Hp → VK → Prop} {o : List D → Option (List D)} (hc : CallR X (.builtin id) r) (hr : ResCF X.K w.cl r o) (hg : Gl X x) (hm : X.mg x = none) (hv : bootBuiltins x = some (.builtin id)) (ha : VAo w X (e :: es) fs) (hn : x ≠ "__name__" := by decide) (hdb : (x == ("__debug__" : Str)) = false := by decide)
    (he : starEach (e :: es) X.env = (false, eval e X.env) :: starEach es X.env := by rfl) (hpl : (backTo pos (starEach es X.env)).any (·.1) = false := by rfl) : VF w X (.Call (.Name x p) (e :: es) [] pos) (aArgs o fs) :=
  PE.imp (pe_callB hc hg hm hv ha hn hdb he hpl) (callCF_imp hr)
theorem vf_callTy {r : List V → Hp → VK → Prop} {o : List D → Option (List D)} (hc : CallR X (.type id) r) (hr : ResCF X.K w.cl r o) (hg : Gl X x) (hm : X.mg x = none) (hv : bootBuiltins x = some (.type id)) (ha : VAo w X (e :: es) fs) (hn : x ≠ "__name__" := by decide) (hdb : (x == ("__debug__" : Str)) = false := by decide)
    (he : starEach (e :: es) X.env = (false, eval e X.env) :: starEach es X.env := by rfl) (hpl : (backTo pos (starEach es X.env)).any (·.1) = false := by rfl) : VF w X (.Call (.Name x p) (e :: es) [] pos) (aArgs o fs) :=
  PE.imp (pe_callTy hc hg hm hv ha hn hdb he hpl) (callCF_imp hr)
theorem obsl1 {G H : Hp} {d : D} {vs : List V} (h : ObsL K cl G H [d] vs) : ∃ v, vs = [v] ∧ Obs K cl G H d v := by
  obtain ⟨v, r, e, h1, h2⟩ := h
  have h2 : r = [] := h2
  exact ⟨v, by rw [e, h2], h1⟩
theorem obsl2 {G H : Hp} {d d' : D} {vs : List V} (h : ObsL K cl G H [d, d'] vs) : ∃ v u, vs = [v, u] ∧ Obs K cl G H d v ∧ Obs K cl G H d' u := by
  obtain ⟨v, r, e, h1, h2⟩ := h
  obtain ⟨u, e2, h3⟩ := obsl1 h2
  exact ⟨v, u, by rw [e, e2], h1, h3⟩
def oLen : List D → Option D
  | [.str z] => if z.length ≤ 16777216 then some (.int z.length) else none
  | [d] => (itemsOf d).map fun ds => .int ds.length
  | _ => none
theorem r_len : ResC K cl (fun xs H Q => ∃ x n, xs = [x] ∧ LenV K x H n ∧ Q (.int n) H) oLen := by
  intro ds z hz H G vs Q s hv q
  unfold oLen at hz
  split at hz
  · rename_i y
    split at hz
    · rename_i hl
      cases hz
      obtain ⟨v, rfl, h1⟩ := obsl1 hv
      rw [obs_str h1]
      exact ⟨_, y.length, rfl, ⟨line_le hl, rfl⟩, q _ H G (Grow.refl s) mk_int⟩
    · cases hz
  · rename_i d _
    cases e1 : itemsOf d with
    | none =>
      rw [e1] at hz
      cases hz
    | some ys =>
      rw [e1] at hz
      cases hz
      obtain ⟨v, rfl, h1⟩ := obsl1 hv
      obtain ⟨p, vs, rfl, h2, h3⟩ := items_ok s h1 e1
      refine ⟨_, ys.length, rfl, ?_, q _ H G (Grow.refl s) mk_int⟩
      rcases h2 with h2 | h2
      · exact .inl ⟨vs, h2, h3.length.symm⟩
      · exact .inr ⟨vs, h2, h3.length.symm⟩
  · cases hz
def oToInt : List D → Option D
  | [.int i] => some (.int i)
  | [.bl b] => some (.int (if b then 1 else 0))
  | _ => none
theorem r_toInt : ResC K cl (fun xs H Q => (∃ i, xs = [.int i] ∧ Q (.int i) H) ∨ ∃ k, xs = [.bl k] ∧ Q (.int (if k then 1 else 0)) H) oToInt := by
  intro ds z hz H G vs Q s hv q
  unfold oToInt at hz
  split at hz
  · rename_i i
    cases hz
    obtain ⟨v, rfl, h1⟩ := obsl1 hv
    exact .inl ⟨i, by rw [obs_int h1], q _ H G (Grow.refl s) mk_int⟩
  · rename_i b
    cases hz
    obtain ⟨v, rfl, h1⟩ := obsl1 hv
    exact .inr ⟨b, by rw [obs_bl h1], q _ H G (Grow.refl s) mk_int⟩
  · cases hz
def oMax2 : List D → Option D
  | [.int i, .int j] => some (.int (max i j))
  | _ => none
def oMin2 : List D → Option D
  | [.int i, .int j] => some (.int (min i j))
  | _ => none
theorem r_max2 : ResC K cl (fun xs H Q => ∃ i j, xs = [.int i, .int j] ∧ Q (.int (if j > i then j else i)) H) oMax2 := by
  intro ds z hz H G vs Q s hv q
  unfold oMax2 at hz
  split at hz
  · rename_i i j
    cases hz
    obtain ⟨v, u, rfl, h1, h2⟩ := obsl2 hv
    refine ⟨i, j, by rw [obs_int h1, obs_int h2], ?_⟩
    have e : (if j > i then j else i) = max i j := by
      split <;> omega
    rw [e]
    exact q _ H G (Grow.refl s) mk_int
  · cases hz
theorem r_min2 : ResC K cl (fun xs H Q => ∃ i j, xs = [.int i, .int j] ∧ Q (.int (if j < i then j else i)) H) oMin2 := by
  intro ds z hz H G vs Q s hv q
  unfold oMin2 at hz
  split at hz
  · rename_i i j
    cases hz
    obtain ⟨v, u, rfl, h1, h2⟩ := obsl2 hv
    refine ⟨i, j, by rw [obs_int h1, obs_int h2], ?_⟩
    have e : (if j < i then j else i) = min i j := by
      split <;> omega
    rw [e]
    exact q _ H G (Grow.refl s) mk_int
  · cases hz
/-- lists of ints -/
def intsOf : List D → Option (List Int)
  | [] => some []
  | .int i :: r => (intsOf r).map fun l => i :: l
  | _ :: _ => none
theorem intsOf_map : ∀ ns : List Int, intsOf (ns.map D.int) = some ns
  | [] => rfl
  | n :: r => by
    rw [List.map_cons, intsOf, intsOf_map r]
    rfl
theorem intsOf_some : ∀ {ds : List D} {ns : List Int}, intsOf ds = some ns → ds = ns.map D.int
  | [], ns, h => by
    cases h
    rfl
  | d :: r, ns, h => by
    cases d with
    | int i =>
      rw [intsOf] at h
      cases e : intsOf r with
      | none =>
        rw [e] at h
        cases h
      | some l =>
        rw [e] at h
        cases h
        rw [intsOf_some e]
        rfl
    | _ => cases h
theorem dens_ints {H : Hp} : ∀ {ns : List Int} {vs : List V}, Dens K cl H (ns.map D.int) vs → vs = ns.map V.int
  | [], _, h => by simpa only [List.map_nil, Dens] using h
  | n :: r, _, h => by
    simp only [List.map_cons, Dens] at h
    obtain ⟨v, l, rfl, h1, h2⟩ := h
    rw [den_int h1, dens_ints h2]
    rfl
theorem ints_dens {H : Hp} : ∀ (ns : List Int), Dens K cl H (ns.map D.int) (ns.map V.int)
  | [] => Dens.nil
  | n :: r => Dens.cons mk_int (ints_dens r)
def seqOf : D → Option (List D)
  | .lst ds => some ds
  | .fl ds => some ds
  | _ => none
theorem seq_ok {G H : Hp} (s : Same G H) {d : D} {ds : List D} {v : V} (h : Obs K cl G H d v) (e : seqOf d = some ds) : ∃ a vs, v = .ref a ∧ SqL K H a vs ∧ Dens K cl G ds vs := by
  cases d with
  | lst es =>
    cases e
    obtain ⟨a, vs, rfl, h1, h2⟩ := obs_lst h
    exact ⟨a, vs, rfl, .inl (.inl h1), h2⟩
  | fl es =>
    cases e
    obtain ⟨a, vs, rfl, h1, h2⟩ := obs_fl h
    exact ⟨a, vs, rfl, s.seq h1, h2⟩
  | _ => cases e
def oSum : List D → Option D
  | [d] => ((seqOf d).bind intsOf).map fun ns => .int ns.sum
  | _ => none
theorem seqInts {G H : Hp} (s : Same G H) {d : D} {ns : List Int} {v : V} (h : Obs K cl G H d v) (e : (seqOf d).bind intsOf = some ns) : ∃ a, v = .ref a ∧ SqL K H a (ns.map V.int) := by
  obtain ⟨ds, e1, e2⟩ := bind_some2 e
  obtain ⟨a, vs, rfl, h1, h2⟩ := seq_ok s h e1
  rw [intsOf_some e2] at h2
  exact ⟨a, rfl, by rw [← dens_ints h2]; exact h1⟩
theorem r_sum : ResC K cl (rSum K) oSum := by
  intro ds z hz H G vs Q s hv q
  unfold oSum at hz
  split at hz
  · obtain ⟨ns, e1, rfl⟩ := map_some2 hz
    obtain ⟨v, rfl, h1⟩ := obsl1 hv
    obtain ⟨a, rfl, h2⟩ := seqInts s h1 e1
    exact ⟨a, ns, rfl, h2, q _ H G (Grow.refl s) mk_int⟩
  · cases hz
/-- greatest, least -/
def maxI : List Int → Option Int
  | [] => none
  | x :: r => some (r.foldl max x)
def minI : List Int → Option Int
  | [] => none
  | x :: r => some (r.foldl min x)
theorem foldl_max : ∀ (r : List Int) (x : Int), (r.foldl max x = x ∨ r.foldl max x ∈ r) ∧ x ≤ r.foldl max x ∧ ∀ y ∈ r, y ≤ r.foldl max x
  | [], x => ⟨.inl rfl, Int.le_refl _, fun _ h => nomatch h⟩
  | y :: r, x => by
    obtain ⟨h1, h2, h3⟩ := foldl_max r (max x y)
    rw [List.foldl_cons]
    refine ⟨?_, by omega, fun z hz => ?_⟩
    · rcases h1 with h1 | h1
      · rcases Int.le_total x y with h | h
        · rw [Int.max_eq_right h] at h1 ⊢
          exact .inr (by rw [h1]; exact List.mem_cons_self)
        · rw [Int.max_eq_left h] at h1 ⊢
          exact .inl h1
      · exact .inr (List.mem_cons_of_mem _ h1)
    · rcases List.mem_cons.mp hz with rfl | hz
      · omega
      · exact h3 z hz
theorem foldl_min : ∀ (r : List Int) (x : Int), (r.foldl min x = x ∨ r.foldl min x ∈ r) ∧ r.foldl min x ≤ x ∧ ∀ y ∈ r, r.foldl min x ≤ y
  | [], x => ⟨.inl rfl, Int.le_refl _, fun _ h => nomatch h⟩
  | y :: r, x => by
    obtain ⟨h1, h2, h3⟩ := foldl_min r (min x y)
    rw [List.foldl_cons]
    refine ⟨?_, by omega, fun z hz => ?_⟩
    · rcases h1 with h1 | h1
      · rcases Int.le_total x y with h | h
        · rw [Int.min_eq_left h] at h1 ⊢
          exact .inl h1
        · rw [Int.min_eq_right h] at h1 ⊢
          exact .inr (by rw [h1]; exact List.mem_cons_self)
      · exact .inr (List.mem_cons_of_mem _ h1)
    · rcases List.mem_cons.mp hz with rfl | hz
      · omega
      · exact h3 z hz
theorem maxI_spec {ns : List Int} {m : Int} (h : maxI ns = some m) : m ∈ ns ∧ ∀ y ∈ ns, y ≤ m := by
  cases ns with
  | nil => cases h
  | cons x r =>
    have h : r.foldl max x = m := Option.some.inj h
    obtain ⟨h1, h2, h3⟩ := foldl_max r x
    rw [h] at h1 h2 h3
    refine ⟨?_, fun y hy => ?_⟩
    · rcases h1 with h1 | h1
      · rw [h1]
        exact List.mem_cons_self
      · exact List.mem_cons_of_mem _ h1
    · rcases List.mem_cons.mp hy with rfl | hy
      · exact h2
      · exact h3 y hy
theorem minI_spec {ns : List Int} {m : Int} (h : minI ns = some m) : m ∈ ns ∧ ∀ y ∈ ns, m ≤ y := by
  cases ns with
  | nil => cases h
  | cons x r =>
    have h : r.foldl min x = m := Option.some.inj h
    obtain ⟨h1, h2, h3⟩ := foldl_min r x
    rw [h] at h1 h2 h3
    refine ⟨?_, fun y hy => ?_⟩
    · rcases h1 with h1 | h1
      · rw [h1]
        exact List.mem_cons_self
      · exact List.mem_cons_of_mem _ h1
    · rcases List.mem_cons.mp hy with rfl | hy
      · exact h2
      · exact h3 y hy
def oMaxL : List D → Option D
  | [d] => (((seqOf d).bind intsOf).bind maxI).map D.int
  | _ => none
def oMinL : List D → Option D
  | [d] => (((seqOf d).bind intsOf).bind minI).map D.int
  | _ => none
theorem r_maxL : ResC K cl (rMax K) oMaxL := by
  intro ds z hz H G vs Q s hv q
  unfold oMaxL at hz
  split at hz
  · obtain ⟨m, e1, rfl⟩ := map_some2 hz
    obtain ⟨ns, e1, e2⟩ := bind_some2 e1
    obtain ⟨v, rfl, h1⟩ := obsl1 hv
    obtain ⟨a, rfl, h2⟩ := seqInts s h1 e1
    obtain ⟨m1, m2⟩ := maxI_spec e2
    refine ⟨a, ns, rfl, h2, List.length_pos_of_mem m1, fun m' k1 k2 => ?_⟩
    have e : m' = m := Int.le_antisymm (m2 _ k1) (k2 _ m1)
    rw [e]
    exact q _ H G (Grow.refl s) mk_int
  · cases hz
theorem r_minL : ResC K cl (rMin K) oMinL := by
  intro ds z hz H G vs Q s hv q
  unfold oMinL at hz
  split at hz
  · obtain ⟨m, e1, rfl⟩ := map_some2 hz
    obtain ⟨ns, e1, e2⟩ := bind_some2 e1
    obtain ⟨v, rfl, h1⟩ := obsl1 hv
    obtain ⟨a, rfl, h2⟩ := seqInts s h1 e1
    obtain ⟨m1, m2⟩ := minI_spec e2
    refine ⟨a, ns, rfl, h2, List.length_pos_of_mem m1, fun m' k1 k2 => ?_⟩
    have e : m' = m := Int.le_antisymm (k2 _ m1) (m2 _ k1)
    rw [e]
    exact q _ H G (Grow.refl s) mk_int
  · cases hz
def blsOf : List D → Option (List Bool)
  | [] => some []
  | .bl i :: r => (blsOf r).map fun l => i :: l
  | _ :: _ => none
theorem blsOf_map : ∀ ns : List Bool, blsOf (ns.map D.bl) = some ns
  | [] => rfl
  | n :: r => by
    rw [List.map_cons, blsOf, blsOf_map r]
    rfl
theorem blsOf_some : ∀ {ds : List D} {ns : List Bool}, blsOf ds = some ns → ds = ns.map D.bl
  | [], ns, h => by
    cases h
    rfl
  | d :: r, ns, h => by
    cases d with
    | bl i =>
      rw [blsOf] at h
      cases e : blsOf r with
      | none =>
        rw [e] at h
        cases h
      | some l =>
        rw [e] at h
        cases h
        rw [blsOf_some e]
        rfl
    | _ => cases h
theorem dens_bls {H : Hp} : ∀ {ns : List Bool} {vs : List V}, Dens K cl H (ns.map D.bl) vs → vs = ns.map V.bl
  | [], _, h => by simpa only [List.map_nil, Dens] using h
  | n :: r, _, h => by
    simp only [List.map_cons, Dens] at h
    obtain ⟨v, l, rfl, h1, h2⟩ := h
    rw [den_bl h1, dens_bls h2]
    rfl
def oAny : List D → Option D
  | [d] => ((seqOf d).bind blsOf).map fun ns => .bl (ns.any fun b => b)
  | _ => none
def oAll : List D → Option D
  | [d] => ((seqOf d).bind blsOf).map fun ns => .bl (ns.all fun b => b)
  | _ => none
theorem seqBls {G H : Hp} (s : Same G H) {d : D} {ns : List Bool} {v : V} (h : Obs K cl G H d v) (e : (seqOf d).bind blsOf = some ns) : ∃ a, v = .ref a ∧ SqL K H a (ns.map V.bl) := by
  obtain ⟨ds, e1, e2⟩ := bind_some2 e
  obtain ⟨a, vs, rfl, h1, h2⟩ := seq_ok s h e1
  rw [blsOf_some e2] at h2
  exact ⟨a, rfl, by rw [← dens_bls h2]; exact h1⟩
theorem r_any : ResC K cl (rAny K) oAny := by
  intro ds z hz H G vs Q s hv q
  unfold oAny at hz
  split at hz
  · obtain ⟨ns, e1, rfl⟩ := map_some2 hz
    obtain ⟨v, rfl, h1⟩ := obsl1 hv
    obtain ⟨a, rfl, h2⟩ := seqBls s h1 e1
    exact ⟨a, ns, rfl, h2, q _ H G (Grow.refl s) mk_bl⟩
  · cases hz
theorem r_all : ResC K cl (rAll K) oAll := by
  intro ds z hz H G vs Q s hv q
  unfold oAll at hz
  split at hz
  · obtain ⟨ns, e1, rfl⟩ := map_some2 hz
    obtain ⟨v, rfl, h1⟩ := obsl1 hv
    obtain ⟨a, rfl, h2⟩ := seqBls s h1 e1
    exact ⟨a, ns, rfl, h2, q _ H G (Grow.refl s) mk_bl⟩
  · cases hz
def oList : List D → Option (List D)
  | [d] => itemsOf d
  | _ => none
theorem r_list : ResCF K cl (fun xs H Q => ∃ p ys, xs = [.ref p] ∧ (SqL K H p ys ∨ SqT K H p ys) ∧ ∀ l, H l = none → Q (.ref l) (upd H l (.lst ys))) oList := by
  intro ds z hz H G vs Q s hv q
  unfold oList at hz
  split at hz
  · obtain ⟨v, rfl, h1⟩ := obsl1 hv
    obtain ⟨p, us, rfl, h2, h3⟩ := items_ok s h1 hz
    exact ⟨p, us, rfl, h2, fun l hl => new_lst s hl h3 q⟩
  · cases hz
def oTuple : List D → Option D
  | [d] => (itemsOf d).map D.tup
  | _ => none
theorem r_tuple : ResC K cl (fun xs H Q => ∃ p ys, xs = [.ref p] ∧ ((SqL K H p ys ∧ ∀ l, H l = none → Q (.ref l) (upd H l (.tup ys))) ∨ (SqT K H p ys ∧ Q (.ref p) H))) oTuple := by
  intro ds z hz H G vs Q s hv q
  unfold oTuple at hz
  split at hz
  · rename_i d
    obtain ⟨es, e1, rfl⟩ := map_some2 hz
    obtain ⟨v, rfl, h1⟩ := obsl1 hv
    cases d with
    | lst _ =>
      cases e1
      obtain ⟨a, us, rfl, h2, h3⟩ := obs_lst h1
      exact ⟨a, us, rfl, .inl ⟨.inl (.inl h2), fun l hl => new_tup s hl h3 q⟩⟩
    | fl _ =>
      cases e1
      obtain ⟨a, us, rfl, h2, h3⟩ := obs_fl h1
      exact ⟨a, us, rfl, .inl ⟨s.seq h2, fun l hl => new_tup s hl h3 q⟩⟩
    | tup _ =>
      cases e1
      obtain ⟨a, us, rfl, h2, h3⟩ := obs_tup h1
      exact ⟨a, us, rfl, .inr ⟨same_seqT s h2.sq, q _ H G (Grow.refl s) (mk_tup h2 h3)⟩⟩
    | _ => cases e1
  · cases hz
/-! ### isinstance of plain data against built-in types -/
def tyName : D → Option String
  | .non => some "NoneType"
  | .bl _ => some "bool"
  | .int _ => some "int"
  | .str _ => some "str"
  | .tup _ => some "tuple"
  | .lst _ => some "list"
  | _ => none
theorem tyX_of {G H : Hp} (s : Same G H) {d : D} {n : String} {v : V} (h : Obs K cl G H d v) (e : tyName d = some n) : TyX K H v (.type n) := by
  cases d with
  | non =>
    cases e
    rw [obs_non h]
    exact .base .non
  | bl b =>
    cases e
    rw [obs_bl h]
    exact .base (.bl b)
  | int b =>
    cases e
    rw [obs_int h]
    exact .base (.int b)
  | str b =>
    cases e
    rw [obs_str h]
    exact .base (.str b)
  | tup ds =>
    cases e
    obtain ⟨a, us, rfl, h2, h3⟩ := obs_tup h
    rcases h2.mono s with z | ⟨o, its, n, z, c, _⟩
    · exact .base (.tup z)
    · exact .kTuple z c
  | lst ds =>
    cases e
    obtain ⟨a, us, rfl, h2, h3⟩ := obs_lst h
    exact .base (.lst h2)
  | _ => cases e
def isTy (a b : String) : Option Bool := if a = b then some true else if a = "bool" ∧ b = "int" then some true else
  if a ∈ ["NoneType", "bool", "int", "str", "tuple", "list"] ∧ b ∈ ["bool", "int", "str", "tuple", "list", "dict"] then some false else none
theorem isTy_ok {a b : String} {r : Bool} (h : isTy a b = some r) : PySem.W.kitOne K (.type a) (.type b) = some r := by
  unfold isTy at h
  split at h
  · rename_i e
    cases h
    subst e
    refine kit_ty ?_
    unfold kitB
    rw [if_pos (beq_self_eq_true _)]
  · rename_i ne
    split at h
    · rename_i e
      cases h
      obtain ⟨rfl, rfl⟩ := e
      exact kit_ty (by decide +kernel)
    · rename_i nb
      split at h
      · rename_i e
        cases h
        obtain ⟨h1, h2⟩ := e
        simp only [List.mem_cons, List.not_mem_nil, or_false] at h1 h2
        rcases h1 with rfl | rfl | rfl | rfl | rfl | rfl <;> rcases h2 with rfl | rfl | rfl | rfl | rfl | rfl <;> first | exact kit_ty (by decide +kernel) | exact absurd rfl ne | exact absurd ⟨rfl, rfl⟩ nb
      · cases h
/-- one of several types -/
def tysOf : List D → Option (List String)
  | [] => some []
  | .ty b :: r => (tysOf r).map fun l => b :: l
  | _ :: _ => none
def isAny (a : String) : List String → Option Bool
  | [] => some false
  | b :: r => match isTy a b with
    | some true => some true
    | some false => isAny a r
    | none => none
theorem dens_tys {H : Hp} : ∀ {ds : List D} {bs : List String} {vs : List V}, tysOf ds = some bs → Dens K cl H ds vs → Paired ClsV vs (bs.map Value.type)
  | [], bs, vs, h, q => by
    simp only [Dens] at q
    cases h
    rw [q]
    exact .nil
  | d :: ds, bs, vs, h, q => by
    simp only [Dens] at q
    obtain ⟨v, l, rfl, q1, q2⟩ := q
    cases d with
    | ty b =>
      rw [tysOf] at h
      obtain ⟨r, e, rfl⟩ := map_some2 h
      rw [den_ty q1]
      exact .cons (.ty b) (dens_tys e q2)
    | _ => cases h
theorem isAny_ok {a : String} : ∀ {bs : List String} {r : Bool}, isAny a bs = some r → PySem.W.kitAny K (.type a) (bs.map Value.type) = some r
  | [], r, h => by
    cases h
    exact kitAny_nil
  | b :: bs, r, h => by
    rw [isAny] at h
    split at h
    · rename_i e
      cases h
      exact kitAny_cons (isTy_ok e) (fun z => nomatch z) (fun _ => rfl)
    · rename_i e
      exact kitAny_cons (isTy_ok e) (fun _ => isAny_ok h) (fun z => nomatch z)
    · cases h
def oIsi : List D → Option D
  | [d, .ty b] => ((tyName d).bind fun a => isTy a b).map D.bl
  | [d, .tup ts] => ((tyName d).bind fun a => (tysOf ts).bind fun bs => isAny a bs).map D.bl
  | _ => none
def rIsiD (K : PySem.W.Frag) : List V → Hp → VK → Prop := fun xs H Q => rIsi K xs H Q ∨ rIsiT K xs H Q ∨ rIsiK K xs H Q
theorem call_isiD : CallR X (.builtin "isinstance") (rIsiD X.K) := call_isi.or (call_isiT.or call_isiK)
theorem r_isi : ResC K cl (rIsiD K) oIsi := by
  intro ds z hz H G vs Q s hv q
  unfold oIsi at hz
  split at hz
  · rename_i d b
    obtain ⟨r, e, rfl⟩ := map_some2 hz
    obtain ⟨a, e1, e2⟩ := bind_some2 e
    obtain ⟨v, u, rfl, h1, h2⟩ := obsl2 hv
    rw [obs_ty h2]
    exact .inl ⟨v, .ty b, _, _, r, rfl, .ty b, tyX_of s h1 e1, isTy_ok e2, q _ H G (Grow.refl s) mk_bl⟩
  · rename_i d ts
    obtain ⟨r, e, rfl⟩ := map_some2 hz
    obtain ⟨a, e1, e2⟩ := bind_some2 e
    obtain ⟨bs, e3, e4⟩ := bind_some2 e2
    obtain ⟨v, u, rfl, h1, h2⟩ := obsl2 hv
    obtain ⟨tp, us, rfl, h3, h4⟩ := obs_tup h2
    rcases h3 with z | ⟨o, its, n, z, c, d', _, vl⟩
    · exact .inr (.inl ⟨v, tp, us, _, _, r, rfl, s _ _ z, dens_tys e3 h4, tyX_of s h1 e1, isAny_ok e4, q _ H G (Grow.refl s) mk_bl⟩)
    · have e5 := ClsV.all (dens_tys e3 h4) vl
      obtain ⟨oc, od, dt, sl⟩ := o
      simp only at c d'
      subst c d'
      refine .inr (.inr ⟨v, tp, od, bs.map Value.type, n, sl, _, r, rfl, ?_, tyX_of s h1 e1, isAny_ok e4, q _ H G (Grow.refl s) mk_bl⟩)
      rw [z, ← e5, Array.toArray_toList]
  · cases hz
end
end Fw

/-! Fw4: statements, loops, comprehensions, defs. -/
namespace Fw
open PySem PySem.Spec PyProof.Rows L2

/-! ### stores -/
theorem getset_ne {α : Type} {l : List α} {i j : Nat} {x : α} (h : j ≠ i) : (l.set i x)[j]? = l[j]? := List.getElem?_set_ne (Ne.symm h)
theorem getset_self {α : Type} {l : List α} {i : Nat} {x y : α} (h : (l.set i x)[i]? = some y) : y = x ∧ i < l.length := by
  by_cases hi : i < l.length
  · rw [List.getElem?_set_self hi] at h
    exact ⟨(Option.some.inj h).symm, hi⟩
  · rw [List.getElem?_eq_none (by simpa using hi)] at h
    cases h
section
variable {K : PySem.W.Frag} {w : Wd} {σ : L2.St} {G G' H H' : Hp} {ρ : Env}
theorem Rep.setSh (r : Rep K w σ H G ρ) {d : D} {v : V} (i : Nat) (h : Den K w.cl G d v) : Rep K w (σ.set i (some v)) H G (ρ.set i (.sh d)) := by
  have hl := r.len
  refine ⟨r.base, by rw [List.length_set, List.length_set, hl], fun j e hj => ?_, fun j ds hj => ?_, fun j c ds hj => ?_, fun j k ds es a h1 h2 h3 h4 => ?_⟩
  · by_cases q : j = i
    · subst q
      obtain ⟨e1, e2⟩ := getset_self hj
      cases e1
      exact ⟨v, List.getElem?_set_self (by omega), h⟩
    · rw [getset_ne q] at hj ⊢
      exact r.sh j e hj
  · by_cases q : j = i
    · subst q
      cases (getset_self hj).1
    · rw [getset_ne q] at hj ⊢
      exact r.own j ds hj
  · by_cases q : j = i
    · subst q
      cases (getset_self hj).1
    · rw [getset_ne q] at hj ⊢
      exact r.slf j c ds hj
  · by_cases q : j = i
    · subst q
      cases (getset_self h1).1
    · by_cases q' : k = i
      · subst q'
        cases (getset_self h2).1
      · rw [getset_ne q] at h1 h3
        rw [getset_ne q'] at h2 h4
        exact r.dis j k ds es a h1 h2 h3 h4
theorem Rep.setOwn (r : Rep K w σ H G ρ) (g : Grow H G H' G') {a : Addr} {ds : Ow} {vs : HO} (i : Nat) (hn : H a = none) (ha : H' a = some vs) (hg : G' a = none) (hd : OwOk K w.cl G' ds vs) (hk : ∀ c zs, ds ≠ .obj c zs) : Rep K w (σ.set i (some (.ref a))) H' G' (ρ.set i (.own ds)) := by
  have r' := r.go g
  have hl := r.len
  have other : ∀ (j : Nat) (es : Ow), ρ[j]? = some (.own es) → σ[j]? ≠ some (some (.ref a)) := fun j es hj e => by
    obtain ⟨b, us, e1, e2, _⟩ := r.own j es hj
    rw [e] at e1
    cases e1
    rw [hn] at e2
    cases e2
  refine ⟨r'.base, by rw [List.length_set, List.length_set, hl], fun j e hj => ?_, fun j es hj => ?_, fun j c es hj => ?_, fun j k es fs b h1 h2 h3 h4 => ?_⟩
  · by_cases q : j = i
    · subst q
      cases (getset_self hj).1
    · rw [getset_ne q] at hj ⊢
      exact r'.sh j e hj
  · by_cases q : j = i
    · subst q
      obtain ⟨e1, e2⟩ := getset_self hj
      cases e1
      exact ⟨a, vs, List.getElem?_set_self (by omega), ha, hg, r.base.ext.free hn, hd⟩
    · rw [getset_ne q] at hj ⊢
      exact r'.own j es hj
  · by_cases q : j = i
    · subst q
      have e1 := (getset_self hj).1
      cases e1
      exact absurd rfl (hk _ _)
    · rw [getset_ne q] at hj ⊢
      exact r'.slf j c es hj
  · by_cases q : j = i
    · by_cases q' : k = i
      · rw [q, q']
      · subst q
        have e3 := (getset_self h3).1
        cases e3
        rw [getset_ne q'] at h2 h4
        exact absurd h4 (other k fs h2)
    · by_cases q' : k = i
      · subst q'
        have e4 := (getset_self h4).1
        cases e4
        rw [getset_ne q] at h1 h3
        exact absurd h3 (other j es h1)
      · rw [getset_ne q] at h1 h3
        rw [getset_ne q'] at h2 h4
        exact r'.dis j k es fs b h1 h2 h3 h4
theorem upd_self {H : Hp} {a : Addr} {o : HO} : upd H a o a = some o := upd_same
/-- an owned list is changed -/
theorem Rep.change (r : Rep K w σ H G ρ) {a : Addr} {ds es : Ow} {us : HO} {i : Nat} (hi : ρ[i]? = some (.own ds)) (hs : σ[i]? = some (some (.ref a))) (hd : OwOk K w.cl G es us) (hk : ∀ c zs, es = .obj c zs → a = w.sf) : Rep K w σ (upd H a us) G (ρ.set i (.own es)) := by
  have hl := r.len
  obtain ⟨b, vs, e1, e2, e3, e4, e5⟩ := r.own i ds hi
  rw [hs] at e1
  cases e1
  have ne : ∀ (c : Addr) (o : HO), G c = some o → c ≠ a := fun c o hc z => by
    rw [z, e3] at hc
    cases hc
  refine ⟨⟨fun c o hc => ?_, r.base.gext, fun c o hc => ?_, r.base.new⟩, by rw [List.length_set, hl], fun j e hj => ?_, fun j fs hj => ?_, fun j c fs hj => ?_, fun j k f1 f2 b h1 h2 h3 h4 => ?_⟩
  · have : c ≠ a := fun z => by
      rw [z, e4] at hc
      cases hc
    rw [upd_ne this]
    exact r.base.ext _ _ hc
  · rw [upd_ne (ne c o hc)]
    exact r.base.sub _ _ hc
  · by_cases q : j = i
    · subst q
      cases (getset_self hj).1
    · rw [getset_ne q] at hj
      exact r.sh j e hj
  · by_cases q : j = i
    · subst q
      have e6 := (getset_self hj).1
      cases e6
      exact ⟨a, us, hs, upd_same, e3, e4, hd⟩
    · rw [getset_ne q] at hj
      obtain ⟨b, vs', k1, k2, k3, k4, k5⟩ := r.own j fs hj
      have : b ≠ a := fun z => by
        subst z
        exact q (r.dis j i fs ds b hj hi k1 hs)
      exact ⟨b, vs', k1, by rw [upd_ne this]; exact k2, k3, k4, k5⟩
  · by_cases q : j = i
    · subst q
      have e6 := (getset_self hj).1
      rw [hs, hk _ _ (Cell.own.inj e6).symm]
    · rw [getset_ne q] at hj
      exact r.slf j c fs hj
  · have get : ∀ (j : Nat) (f : Ow), (ρ.set i (.own es))[j]? = some (.own f) → ∃ f', ρ[j]? = some (.own f') := fun j f hj => by
      by_cases q : j = i
      · exact ⟨ds, by rw [q]; exact hi⟩
      · rw [getset_ne q] at hj
        exact ⟨f, hj⟩
    obtain ⟨f1', h1'⟩ := get j f1 h1
    obtain ⟨f2', h2'⟩ := get k f2 h2
    exact r.dis j k f1' f2' b h1' h2' h3 h4
/-- an owned list becomes stable -/
def frz (i : Nat) (ρ : Env) : Env := match cellAt ρ i with
  | .own o => ρ.set i (.sh o.toD)
  | _ => ρ
theorem Rep.frz (r : Rep K w σ H G ρ) (i : Nat) : ∃ G', Same G G' ∧ Rep K w σ H G' (Fw.frz i ρ) := by
  unfold Fw.frz
  split
  · rename_i ds e
    have hi := cellAt_get e (fun z => nomatch z)
    obtain ⟨a, vs, e1, e2, e3, e4, e5⟩ := r.own i ds hi
    have hs : Same G (upd G a vs) := same_upd e3
    have hl := r.len
    refine ⟨_, hs, ⟨r.base.ext, r.base.gext.trans hs, fun c o hc => ?_, fun c hc => ?_⟩, by rw [List.length_set, hl], fun j d hj => ?_, fun j es hj => ?_, fun j c es hj => ?_, fun j k f1 f2 b h1 h2 h3 h4 => ?_⟩
    · by_cases q : c = a
      · subst q
        rw [upd_same] at hc
        rw [← hc]
        exact e2
      · rw [upd_ne q] at hc
        exact r.base.sub _ _ hc
    · by_cases q : c = a
      · exact .inr (by rw [q]; exact e4)
      · rw [upd_ne q] at hc
        exact r.base.new c hc
    · by_cases q : j = i
      · subst q
        have e6 := (getset_self hj).1
        cases e6
        exact ⟨_, e1, (e5.mono hs).den upd_same⟩
      · rw [getset_ne q] at hj
        obtain ⟨v, k1, k2⟩ := r.sh j d hj
        exact ⟨v, k1, k2.mono hs⟩
    · by_cases q : j = i
      · subst q
        cases (getset_self hj).1
      · rw [getset_ne q] at hj
        obtain ⟨b, vs', k1, k2, k3, k4, k5⟩ := r.own j es hj
        have : b ≠ a := fun z => by
          subst z
          exact q (r.dis j i es ds b hj hi k1 e1)
        exact ⟨b, vs', k1, k2, by rw [upd_ne this]; exact k3, k4, k5.mono hs⟩
    · by_cases q : j = i
      · subst q
        cases (getset_self hj).1
      · rw [getset_ne q] at hj
        exact r.slf j c es hj
    · by_cases q : j = i
      · subst q
        cases (getset_self h1).1
      · by_cases q' : k = i
        · subst q'
          cases (getset_self h2).1
        · rw [getset_ne q] at h1
          rw [getset_ne q'] at h2
          exact r.dis j k f1 f2 b h1 h2 h3 h4
  · exact ⟨G, Same.refl _, r⟩
end

/-! ### statements -/
section
variable {X : Cx} {w : Wd} {e ea eb : Expr} {s : Stmt} {ss : List Stmt} {f g : Ef} {fs : Af} {pos p : Pos} {x : Str} {F F1 F2 : Sf} {t : Tf}
def sNext : Sf := fun ρ => .nx ρ
def sSeq (F1 F2 : Sf) : Sf := fun ρ => match F1 ρ with
  | .nx ρ1 => F2 ρ1
  | .bk ρ1 => .bk ρ1
  | .ct ρ1 => .ct ρ1
  | .rt d => .rt d
  | .rf ds => .rf ds
  | .stuck => .stuck
theorem tS_next {K : PySem.W.Frag} : ∀ Ds σ H, tS K w sNext Ds σ H → tNext Ds σ H := fun Ds σ H ⟨ρ, G, r, q⟩ => q σ H G (Same.refl _) r
theorem vss_nil : VSs w X [] sNext := PSs.imp pss_nil tS_next
theorem vs_pass : VS w X (.Pass pos) sNext := PS.imp ps_pass tS_next
theorem tS_seq {K : PySem.W.Frag} : ∀ Ds σ H, tS K w (sSeq F1 F2) Ds σ H → tSeq (tS K w F1) (tS K w F2) Ds σ H := fun Ds σ H ⟨ρ, G, r, q⟩ => by
  refine ⟨ρ, G, r, ?_⟩
  unfold sSeq at q
  cases e : F1 ρ with
  | nx ρ1 =>
    rw [e] at q
    exact fun σ' H' G' s r' => ⟨ρ1, G', r', post.mono s q⟩
  | bk ρ1 =>
    rw [e] at q
    exact q
  | ct ρ1 =>
    rw [e] at q
    exact q
  | rt d =>
    rw [e] at q
    exact q
  | rf d =>
    rw [e] at q
    exact q
  | stuck =>
    rw [e] at q
    exact q
theorem vss_cons (h1 : VS w X s F1) (h2 : VSs w X ss F2) : VSs w X (s :: ss) (sSeq F1 F2) := PSs.imp (pss_cons h1 h2) tS_seq
theorem vss_one (h1 : VS w X s F1) : VSs w X [s] F1 := pss_one h1
def sFrz (i : Nat) (F : Sf) : Sf := fun ρ => F (frz i ρ)
theorem vs_frz (i : Nat) (h : VS w X s F) : VS w X s (sFrz i F) := PS.imp h fun Ds σ H ⟨ρ, G, r, q⟩ => by
  obtain ⟨G', hs, r'⟩ := r.frz i
  exact ⟨_, G', r', post.mono hs q⟩
def sBreak : Sf := fun ρ => .bk ρ
def sCont : Sf := fun ρ => .ct ρ
theorem vs_break : VS w X (.Break pos) sBreak := PS.imp ps_break fun Ds σ H ⟨ρ, G, r, q⟩ => q σ H G (Same.refl _) r
theorem vs_continue : VS w X (.Continue pos) sCont := PS.imp ps_continue fun Ds σ H ⟨ρ, G, r, q⟩ => q σ H G (Same.refl _) r
def sStuck : Sf := fun _ => .stuck
theorem vs_never : VS w X s sStuck := PS.imp ps_never fun Ds σ H ⟨ρ, G, r, q⟩ => q
def sSet (i : Nat) (f : Ef) : Sf := fun ρ => match f ρ with
  | some d => .nx (ρ.set i (.sh d))
  | none => .stuck
theorem vs_set {i : Nat} {pos' : Pos} (hN : X.N.Nodup) (hi : X.N[i]? = some x) (hx : Loc X.env.scope x) (he : VE w X e f) (hs : swapsWith e (some (.Name x pos')) pos.line X.env = pure false := by rfl) (hf : X.fn x = true ∨ X.env.scope.names.lookup x = some .local := by first | exact .inl rfl | exact .inr rfl | assumption) :
    VS w X (.Assign [.Name x pos'] e pos) (sSet i f) := PS.imp (ps_set hN hi hx he hs hf) fun Ds σ H ⟨ρ, G, r, q⟩ => by
  unfold sSet at q
  cases e1 : f ρ with
  | none =>
    rw [e1] at q
    exact q.elim
  | some d =>
    rw [e1] at q
    exact seqE r e1 fun v H1 G1 g1 r1 z1 => q _ H1 G1 g1.gg (r1.setSh i z1)
def sSetF (i : Nat) (f : Af) : Sf := fun ρ => match f ρ with
  | some ds => .nx (ρ.set i (.own (.lst ds)))
  | none => .stuck
theorem vs_setF {i : Nat} {pos' : Pos} (hN : X.N.Nodup) (hi : X.N[i]? = some x) (hx : Loc X.env.scope x) (he : VF w X e fs) (hs : swapsWith e (some (.Name x pos')) pos.line X.env = pure false := by rfl) (hf : X.fn x = true ∨ X.env.scope.names.lookup x = some .local := by first | exact .inl rfl | exact .inr rfl | assumption) :
    VS w X (.Assign [.Name x pos'] e pos) (sSetF i fs) := PS.imp (ps_set hN hi hx he hs hf) fun Ds σ H ⟨ρ, G, r, q⟩ => by
  unfold sSetF at q
  cases e1 : fs ρ with
  | none =>
    rw [e1] at q
    exact q.elim
  | some ds =>
    rw [e1] at q
    exact ⟨ρ, G, ds, r, e1, fun a vs H1 G1 g1 h0 h1 h2 h3 => q _ H1 G1 g1.gg (r.setOwn g1 i h0 h1 h2 ⟨vs, rfl, h3⟩ fun _ _ z => nomatch z)⟩
def sSetN (i : Nat) (f : Env → Option Ow) : Sf := fun ρ => match f ρ with
  | some (.lst ds) => .nx (ρ.set i (.own (.lst ds)))
  | some (.dic ks ds) => .nx (ρ.set i (.own (.dic ks ds)))
  | _ => .stuck
theorem vs_setN {i : Nat} {pos' : Pos} {fn : Env → Option Ow} (hN : X.N.Nodup) (hi : X.N[i]? = some x) (hx : Loc X.env.scope x) (he : VN w X e fn) (hs : swapsWith e (some (.Name x pos')) pos.line X.env = pure false := by rfl) (hf : X.fn x = true ∨ X.env.scope.names.lookup x = some .local := by first | exact .inl rfl | exact .inr rfl | assumption) :
    VS w X (.Assign [.Name x pos'] e pos) (sSetN i fn) := PS.imp (ps_set hN hi hx he hs hf) fun Ds σ H ⟨ρ, G, r, q⟩ => by
  unfold sSetN at q
  split at q
  · rename_i ds e1
    exact ⟨ρ, G, _, r, e1, fun a vs H1 G1 g1 h0 h1 h2 h3 => q _ H1 G1 g1.gg (r.setOwn g1 i h0 h1 h2 h3 fun _ _ z => nomatch z)⟩
  · rename_i ks ds e1
    exact ⟨ρ, G, _, r, e1, fun a vs H1 G1 g1 h0 h1 h2 h3 => q _ H1 G1 g1.gg (r.setOwn g1 i h0 h1 h2 h3 fun _ _ z => nomatch z)⟩
  · exact q.elim
def sRetO (f : Env → Option Ow) : Sf := fun ρ => match f ρ with
  | some o => .rf o
  | none => .stuck
theorem vs_retO {fn : Env → Option Ow} (he : VN w X e fn) : VS w X (.Return (some e) pos) (sRetO fn) := PS.imp (ps_ret he) fun Ds σ H ⟨ρ, G, r, q⟩ => by
  unfold sRetO at q
  cases e1 : fn ρ with
  | none =>
    rw [e1] at q
    exact q.elim
  | some ds =>
    rw [e1] at q
    exact ⟨ρ, G, ds, r, e1, fun a vs H1 G1 g1 h0 h1 h2 h3 => q a vs H1 G1 (r.base.go g1) (r.base.ext.free h0) h1 h2 h3⟩
def sDrop (f : Ef) : Sf := fun ρ => match f ρ with
  | some _ => .nx ρ
  | none => .stuck
theorem vs_expr (he : VE w X e f) (hs : swapsWith e none pos.line X.env = pure false := by rfl) : VS w X (.Expr e pos) (sDrop f) := PS.imp (ps_expr he hs) fun Ds σ H ⟨ρ, G, r, q⟩ => by
  unfold sDrop at q
  cases e1 : f ρ with
  | none =>
    rw [e1] at q
    exact q.elim
  | some d =>
    rw [e1] at q
    exact seqE r e1 fun v H1 G1 g1 r1 z1 => q _ H1 G1 g1.gg r1
def sRet (f : Ef) : Sf := fun ρ => match f ρ with
  | some d => .rt d
  | none => .stuck
theorem vs_ret (he : VE w X e f) : VS w X (.Return (some e) pos) (sRet f) := PS.imp (ps_ret he) fun Ds σ H ⟨ρ, G, r, q⟩ => by
  unfold sRet at q
  cases e1 : f ρ with
  | none =>
    rw [e1] at q
    exact q.elim
  | some d =>
    rw [e1] at q
    exact seqE r e1 fun v H1 G1 g1 r1 z1 => q v H1 G1 r1.base z1
def sRetF (f : Af) : Sf := fun ρ => match f ρ with
  | some ds => .rf (.lst ds)
  | none => .stuck
theorem vs_retF (he : VF w X e fs) : VS w X (.Return (some e) pos) (sRetF fs) := PS.imp (ps_ret he) fun Ds σ H ⟨ρ, G, r, q⟩ => by
  unfold sRetF at q
  cases e1 : fs ρ with
  | none =>
    rw [e1] at q
    exact q.elim
  | some ds =>
    rw [e1] at q
    exact ⟨ρ, G, ds, r, e1, fun a vs H1 G1 g1 h0 h1 h2 h3 => q a (.lst vs) H1 G1 (r.base.go g1) (r.base.ext.free h0) h1 h2 ⟨vs, rfl, h3⟩⟩
/-- return of a name that may hold a list of its own -/
def sRetV (i : Nat) : Sf := fun ρ => match cellAt ρ i with
  | .own o => .rf o
  | .sh d => .rt d
  | .no => .stuck
theorem vs_retV {i : Nat} (h : PE X e (tVar i)) : VS w X (.Return (some e) pos) (sRetV i) := PS.imp (ps_ret h) fun Ds σ H ⟨ρ, G, r, q⟩ => by
  unfold sRetV at q
  cases e1 : cellAt ρ i with
  | no =>
    rw [e1] at q
    exact q.elim
  | sh d =>
    rw [e1] at q
    obtain ⟨v, k1, k2⟩ := r.sh i d (cellAt_get e1 (fun z => nomatch z))
    exact ⟨v, k1, q v H G r.base k2⟩
  | own ds =>
    rw [e1] at q
    obtain ⟨a, vs, k1, k2, k3, k4, k5⟩ := r.own i ds (cellAt_get e1 (fun z => nomatch z))
    exact ⟨_, k1, q a vs H G r.base k4 k2 k3 k5⟩
def sRetN : Sf := fun _ => .rt .non
theorem vs_retN : VS w X (.Return none pos) sRetN := PS.imp ps_retN fun Ds σ H ⟨ρ, G, r, q⟩ => q _ H G r.base mk_non
def sIf (t : Tf) (F1 F2 : Sf) : Sf := fun ρ => match t ρ with
  | some true => F1 ρ
  | some false => F2 ρ
  | none => .stuck
theorem vs_if {c : Expr} {a b : List Stmt} (hc : VT w X c t) (ha : VSs w X a F1) (hb : VSs w X b F2) : VS w X (.If c a b pos) (sIf t F1 F2) := PS.imp (ps_if hc ha hb) fun Ds σ H ⟨ρ, G, r, q⟩ => by
  unfold sIf at q
  cases e1 : t ρ with
  | none =>
    rw [e1] at q
    exact q.elim
  | some b =>
    rw [e1] at q
    refine seqT r e1 fun H1 G1 g1 r1 => ?_
    cases b with
    | true => exact iteT ⟨ρ, G1, r1, post.mono g1.gg q⟩
    | false => exact iteF ⟨ρ, G1, r1, post.mono g1.gg q⟩
/-- x += e, on ints -/
def sAugI (o : Int → Int → Int) (i : Nat) (f : Ef) : Sf := fun ρ => match cellAt ρ i, f ρ with
  | .sh (.int a), some (.int b) => .nx (ρ.set i (.sh (.int (o a b))))
  | _, _ => .stuck
theorem vs_augI {i : Nat} {op : Operator} {o : Int → Int → Int} {pos' : Pos} (hN : X.N.Nodup) (hi : X.N[i]? = some x) (hx : Loc X.env.scope x) (he : VE w X e f) (ho : PIp X op (ipI o)) (hf : X.fn x = true ∨ X.env.scope.names.lookup x = some .local := by first | exact .inl rfl | exact .inr rfl | assumption) :
    VS w X (.AugAssign (.Name x pos') op e pos) (sAugI o i f) := PS.imp (ps_aug hN hi hx he ho hf) fun Ds σ H ⟨ρ, G, r, q⟩ => by
  unfold sAugI at q
  split at q
  · rename_i a b e1 e2
    obtain ⟨v, k1, k2⟩ := r.sh i _ (cellAt_get e1 (fun z => nomatch z))
    rw [den_int k2] at k1
    refine ⟨_, k1, seqE r e2 fun u H1 G1 g1 r1 z1 => ⟨a, b, rfl, den_int z1, q _ H1 G1 g1.gg (r1.setSh i mk_int)⟩⟩
  · exact q.elim
/-- x.append(e), x a list of its own -/
def sApp (i : Nat) (f : Ef) : Sf := fun ρ => match cellAt ρ i, f ρ with
  | .own (.lst ds), some d => if ds.length < 16777216 then .nx (ρ.set i (.own (.lst (ds ++ [d])))) else .stuck
  | _, _ => .stuck
theorem vs_app {i : Nat} {o : Expr} {apos cpos : Pos} (ho : PE X o (tVar i)) (he : VE w X e f)
    (hbase : attributeBase o "append" X.env (eval o X.env) = eval o X.env := by rfl)
    (hfew : ((backTo cpos (starEach [e] X.env)).all (fun x => !x.1) && (backToKw cpos (keywordEach [] X.env)).all (fun x => x.1.isSome)
      && decide (([e]).length + ([] : List Keyword).length + (if ([] : List Keyword).isEmpty then 0 else 1) < 30)) = true := by rfl)
    (hline : (apos.endLine == cpos.line) = true := by rfl) (hs : starEach [e] X.env = (false, eval e X.env) :: starEach [] X.env := by rfl) (hplain : (backTo cpos (starEach [] X.env)).any (·.1) = false := by rfl)
    (hsw : swapsWith (.Call (.Attribute o "append" apos) [e] [] cpos) none pos.line X.env = pure false := by rfl) :
    VS w X (.Expr (.Call (.Attribute o "append" apos) [e] [] cpos) pos) (sApp i f) :=
  PS.imp (ps_expr (pe_bm PySem.F.plainAttrs_list PySem.F.slot_list_append PySem.F.type_list_append mt_append ho (pa_cons he pa_nil hs) hbase hfew hline hs hplain) hsw) fun Ds σ H ⟨ρ, G, r, q⟩ => by
    unfold sApp at q
    split at q
    · rename_i ds d e1 e2
      split at q
      · rename_i hl
        have hi := cellAt_get e1 (fun z => nomatch z)
        obtain ⟨a, ho, k1, k2, k3, k4, vs, rfl, k5⟩ := r.own i _ hi
        refine ⟨_, k1, .inl ⟨rfl, vs, .inl (.inl k2)⟩, seqE r e2 fun u H1 G1 g1 r1 z1 => ?_⟩
        refine ⟨a, vs, u, rfl, rfl, g1.hh _ _ k2, line_lt (by rw [k5.length]; exact hl), q _ _ G1 g1.gg ?_⟩
        exact r1.change hi k1 ⟨_, rfl, (k5.mono g1.gg).append (Dens.cons z1 Dens.nil)⟩ fun _ _ z => nomatch z
      · exact q.elim
    · exact q.elim
/-- x[i] = e, x a list of its own -/
def ixN' (n : Nat) (i : Int) : Option Nat := if 0 ≤ i then (if i < n then some i.toNat else none) else if -(n : Int) ≤ i then some (i + n).toNat else none
def sSto (i : Nat) (ix f : Ef) : Sf := fun ρ => match cellAt ρ i, asI (ix ρ), f ρ with
  | .own (.lst ds), some k, some d => match ixN' ds.length k with
    | some j => .nx (ρ.set i (.own (.lst (ds.set j d))))
    | none => .stuck
  | _, _, _ => .stuck
theorem vs_sto {i : Nat} {o ix : Expr} {gi : Ef} {tpos : Pos} (ho : PE X o (tVar i)) (hi : VE w X ix gi) (he : VE w X e f)
    (ha : ∀ v, assign (.Subscript o ix tpos) X.env v = (do
      let ov ← holding [v] (eval o X.env)
      let iv ← holding [v, ov] (eval ix X.env)
      standAt tpos
      holding [v, ov, iv] (setItem ov iv v)
      release [v, ov, iv] []) := by intro _; rfl)
    (hs : swapsWithSole [.Subscript o ix tpos] e pos.line X.env = pure false := by rfl) (hw : swappedStores [.Subscript o ix tpos] e X.env = pure none := by rfl)
    (h1 : (assignEach [.Subscript o ix tpos] X.env).map (·.2) = [assign (.Subscript o ix tpos) X.env] := by rfl) :
    VS w X (.Assign [.Subscript o ix tpos] e pos) (sSto i gi f) :=
  PS.imp (ps_asg he (pg_sub ho hi set_list ha) hs hw h1) fun Ds σ H ⟨ρ, G, r, q⟩ => by
    unfold sSto at q
    split at q
    · rename_i ds k d e1 e2 e3
      split at q
      · rename_i j e4
        have hi := cellAt_get e1 (fun z => nomatch z)
        obtain ⟨a, ho, k1, k2, k3, k4, vs, rfl, k5⟩ := r.own i _ hi
        refine seqE r e3 fun u H1 G1 g1 r1 z1 => ?_
        refine ⟨_, k1, seqE r1 (asI_some e2) fun y H2 G2 g2 r2 z2 => ?_⟩
        refine ⟨a, vs, k, j, rfl, den_int z2, g2.hh _ _ (g1.hh _ _ k2), ?_, q _ _ G2 (g1.trans g2).gg ?_⟩
        · rw [k5.length]
          exact e4
        · exact r2.change hi k1 ⟨_, rfl, (k5.mono (g1.trans g2).gg).set j (z1.mono g2.gg)⟩ fun _ _ z => nomatch z
      · exact q.elim
    · exact q.elim
end

/-! ### targets -/
section
variable {X : Cx} {w : Wd} {pos : Pos} {x : Str}
/-- stores of the items one after another -/
def putL : List Nat → List D → Env → Option Env
  | [], [], ρ => some ρ
  | i :: is, d :: ds, ρ => putL is ds (ρ.set i (.sh d))
  | _, _, _ => none
/-- a target: one name, or several -/
inductive Tg where
  | nm (i : Nat) | tp (is : List Nat)
def Tg.ixs : Tg → List Nat
  | .nm i => [i]
  | .tp is => is
def put : Tg → D → Env → Option Env
  | .nm i, d, ρ => some (ρ.set i (.sh d))
  | .tp is, .tup ds, ρ => putL is ds ρ
  | .tp _, _, _ => none
/-- what has been stored where -/
def setL : List Nat → List V → L2.St → Option L2.St
  | [], [], σ => some σ
  | i :: is, v :: vs, σ => setL is vs (σ.set i (some v))
  | _, _, _ => none
def sets (t : Tg) (K : PySem.W.Frag) (H : Hp) (v : V) (σ : L2.St) (σ' : L2.St) : Prop := match t with
  | .nm i => σ' = σ.set i (some v)
  | .tp is => ∃ a vs, v = .ref a ∧ SqT K H a vs ∧ setL is vs σ = some σ'
abbrev VG (w : Wd) (X : Cx) (tg : Expr) (t : Tg) : Prop := PG X tg (fun v σ H Q => ∃ σ', sets t X.K H v σ σ' ∧ Q σ' H)
theorem PG.imp {tg : Expr} {t t' : TG} (h : PG X tg t) (hi : ∀ v σ H Q, t' v σ H Q → t v σ H Q) : PG X tg t' := ⟨fun pins s σ H v u Q I r q => h.run pins s σ H v u Q I r (hi _ _ _ _ q)⟩
theorem vg_nm {i : Nat} (hN : X.N.Nodup) (hi : X.N[i]? = some x) (hx : Loc X.env.scope x) (hf : X.fn x = true ∨ X.env.scope.names.lookup x = some .local := by first | exact .inl rfl | exact .inr rfl | assumption) : VG w X (.Name x pos) (.nm i) :=
  PG.imp (pg_name hN hi hx hf) fun v σ H Q ⟨σ', e, q⟩ => by
    have e : σ' = σ.set i (some v) := e
    subst e
    exact q
abbrev VGs (w : Wd) (X : Cx) (ts : List Expr) (is : List Nat) : Prop := PGs X ts (fun vs σ H Q => ∃ σ', setL is vs σ = some σ' ∧ Q σ' H)
theorem PGs.imp {ts : List Expr} {t t' : TGs} (h : PGs X ts t) (hi : ∀ v σ H Q, t' v σ H Q → t v σ H Q) : PGs X ts t' := ⟨fun pins s σ H v u Q I r q => h.run pins s σ H v u Q I r (hi _ _ _ _ q)⟩
theorem vgs_nil : VGs w X [] [] := PGs.imp pgs_nil fun vs σ H Q ⟨σ', e, q⟩ => by
  cases vs with
  | nil =>
    cases e
    exact ⟨rfl, q⟩
  | cons v r => cases e
theorem vgs_cons {e : Expr} {es : List Expr} {i : Nat} {is : List Nat} (h1 : VG w X e (.nm i)) (h2 : VGs w X es is)
    (hs : (assignEach (e :: es) X.env).map (·.2) = assign e X.env :: (assignEach es X.env).map (·.2) := by rfl) : VGs w X (e :: es) (i :: is) := PGs.imp (pgs_cons h1 h2 hs) fun vs σ H Q ⟨σ', e, q⟩ => by
  cases vs with
  | nil => cases e
  | cons v r => exact ⟨v, r, rfl, _, rfl, σ', e, q⟩
theorem setL_len : ∀ {is : List Nat} {vs : List V} {σ σ' : L2.St}, setL is vs σ = some σ' → vs.length = is.length
  | [], [], _, _, _ => rfl
  | i :: is, v :: vs, _, _, h => by rw [List.length_cons, List.length_cons, setL_len (is := is) h]
  | [], _ :: _, _, _, h => by cases h
  | _ :: _, [], _, _, h => by cases h
theorem vg_tp {es : List Expr} {k n : Nat} {is : List Nat} (hc : X.calm = true) (h : VGs w X es is) (hl : is.length = n) (hn : (assignEach es X.env).length = n := by rfl) (hst : (assignEach es X.env).findIdx? (·.1) = none := by rfl) : VG w X (.Tuple es k pos) (.tp is) :=
  PG.imp (pg_tup hc h hn hst) fun v σ H Q ⟨σ', ⟨a, vs, e1, e2, e3⟩, q⟩ => ⟨a, vs, e1, e2, by rw [setL_len e3, hl], σ', e3, q⟩
theorem put_len : ∀ {is : List Nat} {ds : List D} {ρ ρ' : Env}, putL is ds ρ = some ρ' → ds.length = is.length
  | [], [], _, _, _ => rfl
  | i :: is, v :: vs, _, _, h => by rw [List.length_cons, List.length_cons, put_len (is := is) h]
  | [], _ :: _, _, _, h => by cases h
  | _ :: _, [], _, _, h => by cases h
theorem putL_ok {K : PySem.W.Frag} {H G : Hp} : ∀ {is : List Nat} {ds : List D} {vs : List V} {ρ ρ' : Env} {σ : L2.St}, Rep K w σ H G ρ → putL is ds ρ = some ρ' → Dens K w.cl G ds vs → ∃ σ', setL is vs σ = some σ' ∧ Rep K w σ' H G ρ'
  | [], [], vs, ρ, ρ', σ, r, h, q => by
    simp only [Dens] at q
    cases h
    rw [q]
    exact ⟨σ, rfl, r⟩
  | i :: is, d :: ds, vs, ρ, ρ', σ, r, h, q => by
    simp only [Dens] at q
    obtain ⟨v, l, rfl, q1, q2⟩ := q
    exact putL_ok (is := is) (r.setSh i q1) h q2
  | [], _ :: _, _, _, _, _, _, h, _ => by cases h
  | _ :: _, [], _, _, _, _, _, h, _ => by cases h
theorem put_ok {K : PySem.W.Frag} {H G : Hp} {t : Tg} {d : D} {v : V} {ρ ρ' : Env} {σ : L2.St} (r : Rep K w σ H G ρ) (h : put t d ρ = some ρ') (q : Den K w.cl G d v) : ∃ σ', sets t K H v σ σ' ∧ Rep K w σ' H G ρ' := by
  cases t with
  | nm i =>
    cases h
    exact ⟨_, rfl, r.setSh i q⟩
  | tp is =>
    cases d with
    | tup ds =>
      obtain ⟨a, vs, rfl, q1, q2⟩ := den_tup q
      obtain ⟨σ', e, r'⟩ := putL_ok (is := is) r h q2
      exact ⟨σ', ⟨a, vs, rfl, same_seqT r.base.sub q1.sq, e⟩, r'⟩
    | _ => cases h
/-- a, b = e -/
def sUnp (t : Tg) (f : Ef) : Sf := fun ρ => match (f ρ).bind fun d => put t d ρ with
  | some ρ' => .nx ρ'
  | none => .stuck
theorem vs_unp {tg e : Expr} {f : Ef} {t : Tg} (he : VE w X e f) (hg : VG w X tg t) (hs : swapsWithSole [tg] e pos.line X.env = pure false := by rfl) (hw : swappedStores [tg] e X.env = pure none := by rfl)
    (h1 : (assignEach [tg] X.env).map (·.2) = [assign tg X.env] := by rfl) : VS w X (.Assign [tg] e pos) (sUnp t f) :=
  PS.imp (ps_asg he hg hs hw h1) fun Ds σ H ⟨ρ, G, r, q⟩ => by
    unfold sUnp at q
    cases e1 : f ρ with
    | none =>
      rw [e1] at q
      exact q.elim
    | some d =>
      rw [e1, Option.bind_some] at q
      cases e2 : put t d ρ with
      | none =>
        rw [e2] at q
        exact q.elim
      | some ρ' =>
        rw [e2] at q
        refine seqE r e1 fun v H1 G1 g1 r1 z1 => ?_
        obtain ⟨σ', k1, k2⟩ := put_ok r1 e2 z1
        exact ⟨σ', k1, q _ H1 G1 g1.gg k2⟩
end

/-! ### what is walked -/
/-- the walk yields the data ds, whatever new objects come -/
def Walk (cl : Nat → ClsT) (K : PySem.W.Frag) (G : Hp) (J : It) (ds : List D) : Prop := ∀ H2 G2, Same G G2 → Same G2 H2 →
  (∀ (i : Nat) (d : D), ds[i]? = some d → J.go i H2 ∧ ∀ x H3, J.yld i H2 x H3 → ∃ G3, Grow H2 G2 H3 G3 ∧ Den K cl G3 d x) ∧ J.stop ds.length H2
def tI (K : PySem.W.Frag) (w : Wd) (f : Af) : TI := fun σ H R => ∃ ρ G ds, Rep K w σ H G ρ ∧ f ρ = some ds ∧ ∀ J H' G', Grow H G H' G' → Walk w.cl K G' J ds → R J H'
abbrev VI (w : Wd) (X : Cx) (tg iter : Expr) (f : Af) : Prop := PI X tg iter (tI X.K w f)
section
variable {X : Cx} {w : Wd} {tg e : Expr} {f : Ef} {fs : Af} {pos p : Pos} {K : PySem.W.Frag} {cl : Nat → ClsT}
theorem PI.imp {t t' : TI} (h : PI X tg e t) (hi : ∀ σ H Q, t' σ H Q → t σ H Q) : PI X tg e t' := ⟨fun pins s σ H Q I q => h.run pins s σ H Q I (hi _ _ _ q)⟩
theorem walk_list {G : Hp} {a : Addr} {vs : List V} {ds : List D} (h : SqL K G a vs) (q : Dens K cl G ds vs) : Walk cl K G (Itl K a) ds := fun H2 G2 s1 s2 => by
  have h2 : SqL K H2 a vs := s2.seq (s1.seq h)
  refine ⟨fun i d e => ?_, vs, h2, Nat.le_of_eq q.length⟩
  obtain ⟨v, e1, e2⟩ := q.get' e
  refine ⟨⟨vs, v, h2, e1⟩, fun x H3 ⟨e3, y⟩ => ?_⟩
  have := y vs h2
  rw [e1] at this
  cases this
  subst e3
  exact ⟨G2, Grow.refl s2, e2.mono s1⟩
theorem walk_tup {G : Hp} {a : Addr} {vs : List V} {ds : List D} (h : SqT K G a vs) (q : Dens K cl G ds vs) : Walk cl K G (Itt K a) ds := fun H2 G2 s1 s2 => by
  have h2 : SqT K H2 a vs := same_seqT s2 (same_seqT s1 h)
  refine ⟨fun i d e => ?_, vs, h2, Nat.le_of_eq q.length⟩
  obtain ⟨v, e1, e2⟩ := q.get' e
  refine ⟨⟨vs, v, h2, e1⟩, fun x H3 ⟨e3, y⟩ => ?_⟩
  have := y vs h2
  rw [e1] at this
  cases this
  subst e3
  exact ⟨G2, Grow.refl s2, e2.mono s1⟩
def aSeq (f : Ef) : Af := fun ρ => (f ρ).bind seqOf
theorem vi_list (h : VE w X e f) : VI w X tg e (aSeq f) := PI.imp (pi_list h) fun σ H R ⟨ρ, G, ds, r, hf, q⟩ => by
  obtain ⟨d, e1, e2⟩ := bind_some2 hf
  refine seqE r e1 fun v H1 G1 g1 r1 z1 => ?_
  cases d with
  | lst es =>
    cases e2
    obtain ⟨a, vs, rfl, h1, h2⟩ := den_lst z1
    exact ⟨a, rfl, ⟨vs, g1.sub.seq (.inl (.inl h1))⟩, q _ H1 G1 g1 (walk_list (.inl (.inl h1)) h2)⟩
  | fl es =>
    cases e2
    obtain ⟨a, vs, rfl, h1, h2⟩ := den_fl z1
    exact ⟨a, rfl, ⟨vs, g1.sub.seq h1⟩, q _ H1 G1 g1 (walk_list h1 h2)⟩
  | _ => cases e2
def aTup (f : Ef) : Af := fun ρ => match f ρ with
  | some (.tup ds) => some ds
  | _ => none
theorem vi_tup (h : VE w X e f) : VI w X tg e (aTup f) := PI.imp (pi_tup h) fun σ H R ⟨ρ, G, ds, r, hf, q⟩ => by
  unfold aTup at hf
  split at hf
  · rename_i es e1
    cases hf
    refine seqE r e1 fun v H1 G1 g1 r1 z1 => ?_
    obtain ⟨a, vs, rfl, h1, h2⟩ := den_tup z1
    exact ⟨a, rfl, ⟨vs, same_seqT g1.sub h1.sq⟩, q _ H1 G1 g1 (walk_tup h1.sq h2)⟩
  · cases hf
theorem PI.or {t t' : TI} (h : PI X tg e t) (h' : PI X tg e t') : PI X tg e (fun σ H R => t σ H R ∨ t' σ H R) := ⟨fun pins s σ H R I q => q.elim (h.run pins s σ H R I) (h'.run pins s σ H R I)⟩
/-- a list or a tuple -/
def aItems (f : Ef) : Af := fun ρ => (f ρ).bind itemsOf
theorem vi_items (h : VE w X e f) : VI w X tg e (aItems f) := PI.imp (PI.or (vi_list (w := w) h) (vi_tup h)) fun σ H R ⟨ρ, G, ds, r, hf, q⟩ => by
  obtain ⟨d, e1, e2⟩ := bind_some2 hf
  cases d with
  | lst es => exact .inl ⟨ρ, G, ds, r, by unfold aSeq; rw [e1]; exact e2, q⟩
  | fl es => exact .inl ⟨ρ, G, ds, r, by unfold aSeq; rw [e1]; exact e2, q⟩
  | tup es => exact .inr ⟨ρ, G, ds, r, by unfold aTup; rw [e1]; exact e2, q⟩
  | _ => cases e2
theorem walk_range {G : Hp} {lo : Int} {n : Nat} : Walk cl K G (Itr lo n) ((List.range n).map fun i => .int (lo + (i : Nat))) := fun H2 G2 s1 s2 => by
  refine ⟨fun i d e => ?_, ?_⟩
  · rw [List.getElem?_map] at e
    cases e1 : (List.range n)[i]? with
    | none =>
      rw [e1] at e
      cases e
    | some j =>
      rw [e1] at e
      have hi := (List.getElem?_eq_some_iff.mp e1).1
      rw [List.length_range] at hi
      have ej : j = i := by
        have := List.getElem?_eq_some_iff.mp e1
        obtain ⟨_, q⟩ := this
        rw [List.getElem_range] at q
        exact q.symm
      cases e
      refine ⟨hi, fun x H3 ⟨e3, y⟩ => ?_⟩
      subst e3
      rw [y, ej]
      exact ⟨G2, Grow.refl s2, mk_int⟩
  · rw [List.length_map, List.length_range]
    exact Nat.le_refl n
def rangeD (lo : Int) (n : Nat) : List D := (List.range n).map fun i => .int (lo + (i : Nat))
def aRng1 (fs : Af) : Af := fun ρ => match fs ρ with
  | some [.int j] => if j < 4611686018427387904 ∧ -4611686018427387904 ≤ j then some (rangeD 0 j.toNat) else none
  | _ => none
def aRng2 (fs : Af) : Af := fun ρ => match fs ρ with
  | some [.int i, .int j] => if (j < 4611686018427387904 ∧ -4611686018427387904 ≤ j) ∧ i < 4611686018427387904 ∧ -4611686018427387904 ≤ i then some (rangeD i (j - i).toNat) else none
  | _ => none
theorem vi_range1 {a : Expr} (hg : Gl X "range") (hm : X.mg "range" = none) (ha : VAo w X [a] fs) (hs : starEach [a] X.env = [(false, eval a X.env)] := by rfl) : VI w X tg (.Call (.Name "range" p) [a] [] pos) (aRng1 fs) :=
  PI.imp (pi_range1 hg hm ha hs) fun σ H R ⟨ρ, G, ds, r, hf, q⟩ => by
    unfold aRng1 at hf
    split at hf
    · rename_i j e1
      split at hf
      · rename_i hj
        cases hf
        refine ⟨ρ, G, _, r, e1, fun vs H1 G1 g1 z1 => ?_⟩
        obtain ⟨v, rfl, h1⟩ := obsl1 z1
        exact ⟨j, by rw [obs_int h1], by omega, by omega, q _ H1 G1 g1 walk_range⟩
      · cases hf
    · cases hf
theorem vi_range2 {a b : Expr} (hg : Gl X "range") (hm : X.mg "range" = none) (ha : VAo w X [a, b] fs) (hs : starEach [a, b] X.env = [(false, eval a X.env), (false, eval b X.env)] := by rfl) (hs2 : starEach [b] X.env = [(false, eval b X.env)] := by rfl) : VI w X tg (.Call (.Name "range" p) [a, b] [] pos) (aRng2 fs) :=
  PI.imp (pi_range2 hg hm ha hs hs2) fun σ H R ⟨ρ, G, ds, r, hf, q⟩ => by
    unfold aRng2 at hf
    split at hf
    · rename_i i j e1
      split at hf
      · rename_i hj
        cases hf
        refine ⟨ρ, G, _, r, e1, fun vs H1 G1 g1 z1 => ?_⟩
        obtain ⟨v, u, rfl, h1, h2⟩ := obsl2 z1
        exact ⟨i, j, by rw [obs_int h1, obs_int h2], ⟨by omega, by omega, by omega, by omega⟩, q _ H1 G1 g1 walk_range⟩
      · cases hf
    · cases hf

/-! ### for, while -/
def loopF (t : Tg) (F : Sf) : List D → Env → Out
  | [], ρ => .nx ρ
  | d :: ds, ρ => match put t d ρ with
    | none => .stuck
    | some ρ1 => match F ρ1 with
      | .nx ρ2 => loopF t F ds ρ2
      | .ct ρ2 => loopF t F ds ρ2
      | .bk ρ2 => .nx ρ2
      | .rt d => .rt d
      | .rf d => .rf d
      | .stuck => .stuck
def sFor (f : Af) (t : Tg) (F : Sf) : Sf := fun ρ => match f ρ with
  | some ds => loopF t F ds ρ
  | none => .stuck
theorem drop_at {α : Type} {l : List α} {i : Nat} (h : i < l.length) : l.drop i = l[i] :: l.drop (i + 1) := List.drop_eq_getElem_cons h
theorem vs_for {iter : Expr} {body : List Stmt} {t : Tg} {F : Sf} (hp : PassesOwn (model X.prog X.w) X.A X.env X.xe) (hc : X.calm = true) (hi : VI w X tg iter fs) (hg : VG w X tg t) (hb : VSs w X body F)
    (hs : ∀ x, foldedSetIterable iter X.env x = pure x := by intro _; rfl) : VS w X (.For tg iter body [] pos) (sFor fs t F) :=
  PS.imp (ps_for hp hc hi hg hb hs) fun Ds σ H ⟨ρ, G, r, q⟩ => by
    unfold sFor at q
    cases e0 : fs ρ with
    | none =>
      rw [e0] at q
      exact q.elim
    | some ds =>
      rw [e0] at q
      refine ⟨ρ, G, ds, r, e0, fun J H1 G1 g1 wk => ?_⟩
      refine ⟨fun i m σ H => m = ds.length - i ∧ i ≤ ds.length ∧ ∃ ρ G2, Rep X.K w σ H G2 ρ ∧ Same G1 G2 ∧ post X.K w G1 Ds (loopF t F (ds.drop i) ρ), ⟨ds.length, rfl, Nat.zero_le _, ρ, G1, r.go g1, Same.refl _, post.mono g1.gg q⟩, ?_⟩
      rintro i m σ2 H2 ⟨rfl, hi, ρ2, G2, r2, s2, q2⟩
      obtain ⟨w1, w2⟩ := wk H2 G2 s2 r2.base.sub
      by_cases hlt : i < ds.length
      · right
        rw [drop_at hlt] at q2
        obtain ⟨hgo, hy⟩ := w1 i ds[i] (List.getElem?_eq_getElem hlt)
        refine ⟨hgo, fun σ' H' => ∃ ρ' G3, Rep X.K w σ' H' G3 ρ' ∧ Same G1 G3 ∧ post X.K w G1 Ds (loopF t F (ds.drop (i + 1)) ρ'), fun σ' H' ⟨ρ', G3, k1, k2, k3⟩ => ⟨ds.length - (i + 1), by omega, rfl, hlt, ρ', G3, k1, k2, k3⟩, fun x H3 y => ?_⟩
        obtain ⟨G3, g3, z3⟩ := hy x H3 y
        have r3 := r2.go g3
        have s3 := s2.trans g3.gg
        rw [loopF] at q2
        cases e1 : put t ds[i] ρ2 with
        | none =>
          rw [e1] at q2
          exact q2.elim
        | some ρ4 =>
          rw [e1] at q2
          obtain ⟨σ4, k1, k2⟩ := put_ok r3 e1 z3
          refine ⟨σ4, k1, ρ4, G3, k2, ?_⟩
          dsimp only at q2
          cases e2 : F ρ4 with
          | nx ρ5 =>
            rw [e2] at q2
            exact fun σ5 H5 G5 s5 r5 => ⟨ρ5, G5, r5, s3.trans s5, q2⟩
          | ct ρ5 =>
            rw [e2] at q2
            exact fun σ5 H5 G5 s5 r5 => ⟨ρ5, G5, r5, s3.trans s5, q2⟩
          | bk ρ5 =>
            rw [e2] at q2
            exact fun σ5 H5 G5 s5 r5 => q2 σ5 H5 G5 (s3.trans s5) r5
          | rt d =>
            rw [e2] at q2
            exact q2
          | rf d =>
            rw [e2] at q2
            exact q2
          | stuck =>
            rw [e2] at q2
            exact q2.elim
      · left
        have e : i = ds.length := by omega
        subst e
        rw [List.drop_length, loopF] at q2
        exact ⟨w2, q2 σ2 H2 G2 s2 r2⟩
def whileF (t : Tf) (F : Sf) : Nat → Env → Out
  | 0, _ => .stuck
  | n + 1, ρ => match t ρ with
    | none => .stuck
    | some false => .nx ρ
    | some true => match F ρ with
      | .nx ρ2 => whileF t F n ρ2
      | .ct ρ2 => whileF t F n ρ2
      | .bk ρ2 => .nx ρ2
      | .rt d => .rt d
      | .rf d => .rf d
      | .stuck => .stuck
theorem vs_while (n : Nat) {c : Expr} {body : List Stmt} {t : Tf} {F : Sf} (hp : PassesOwn (model X.prog X.w) X.A X.env X.xe) (hc : VT w X c t) (hb : VSs w X body F) : VS w X (.While c body [] pos) (whileF t F n) :=
  PS.imp (ps_while hp hc hb) fun Ds σ H ⟨ρ, G, r, q⟩ => by
    refine ⟨fun m σ H => ∃ ρ G2, Rep X.K w σ H G2 ρ ∧ Same G G2 ∧ post X.K w G Ds (whileF t F m ρ), ⟨n, ρ, G, r, Same.refl _, q⟩, ?_⟩
    rintro m σ2 H2 ⟨ρ2, G2, r2, s2, q2⟩
    cases m with
    | zero => exact q2.elim
    | succ m =>
      rw [whileF] at q2
      cases e0 : t ρ2 with
      | none =>
        rw [e0] at q2
        exact q2.elim
      | some b =>
        rw [e0] at q2
        refine seqT r2 e0 fun H3 G3 g3 r3 => ?_
        have s3 := s2.trans g3.gg
        cases b with
        | false => exact iteF (q2 σ2 H3 G3 s3 r3)
        | true =>
          refine iteT ⟨fun σ' H' => ∃ ρ' G4, Rep X.K w σ' H' G4 ρ' ∧ Same G G4 ∧ post X.K w G Ds (whileF t F m ρ'), fun σ' H' k => ⟨m, Nat.lt_succ_self _, k⟩, ρ2, G3, r3, ?_⟩
          dsimp only at q2
          cases e2 : F ρ2 with
          | nx ρ5 =>
            rw [e2] at q2
            exact fun σ5 H5 G5 s5 r5 => ⟨ρ5, G5, r5, s3.trans s5, q2⟩
          | ct ρ5 =>
            rw [e2] at q2
            exact fun σ5 H5 G5 s5 r5 => ⟨ρ5, G5, r5, s3.trans s5, q2⟩
          | bk ρ5 =>
            rw [e2] at q2
            exact fun σ5 H5 G5 s5 r5 => q2 σ5 H5 G5 (s3.trans s5) r5
          | rt d =>
            rw [e2] at q2
            exact q2
          | rf d =>
            rw [e2] at q2
            exact q2
          | stuck =>
            rw [e2] at q2
            exact q2.elim
end
end Fw

/-! Fw5: comprehensions, defs and their calls. -/
namespace Fw
open PySem PySem.Spec PyProof.Rows L2

theorem wipe_get (σ : L2.St) : ∀ (vs : List Nat) (j : Nat), (wipe σ vs)[j]? = if j ∈ vs ∧ j < σ.length then some none else σ[j]?
  | [], j => by
    rw [if_neg (fun h => nomatch h.1)]
    rfl
  | v :: vs, j => by
    show ((wipe σ vs).set v none)[j]? = _
    have ih := wipe_get σ vs j
    have hl := wipe_length σ vs
    by_cases h : j = v
    · subst h
      by_cases hj : j < σ.length
      · rw [List.getElem?_set_self (by omega), if_pos ⟨List.mem_cons_self, hj⟩]
      · rw [List.getElem?_eq_none (by rw [List.length_set]; omega), if_neg (fun z => hj z.2), List.getElem?_eq_none (by omega)]
    · rw [List.getElem?_set_ne (Ne.symm h), ih]
      by_cases hm : j ∈ vs ∧ j < σ.length
      · rw [if_pos hm, if_pos ⟨List.mem_cons_of_mem _ hm.1, hm.2⟩]
      · rw [if_neg hm, if_neg fun z => hm ⟨(List.mem_cons.mp z.1).elim (fun q => absurd q h) id, z.2⟩]
theorem wipe_eq {σ σ' : L2.St} {vs : List Nat} (hl : σ'.length = σ.length) (h : ∀ j, j ∉ vs → σ'[j]? = (wipe σ vs)[j]?) : wipe σ' vs = wipe σ vs := by
  apply List.ext_getElem?
  intro j
  rw [wipe_get, wipe_get, hl]
  by_cases hm : j ∈ vs
  · by_cases hj : j < σ.length
    · rw [if_pos ⟨hm, hj⟩, if_pos ⟨hm, hj⟩]
    · rw [if_neg fun z => hj z.2, if_neg fun z => hj z.2, List.getElem?_eq_none (by omega), List.getElem?_eq_none (by omega)]
  · rw [if_neg fun z => hm z.1, if_neg fun z => hm z.1, h j hm, wipe_get, if_neg fun z => hm z.1]
theorem setL_keep : ∀ {is : List Nat} {vs : List V} {σ σ' : L2.St}, setL is vs σ = some σ' → σ'.length = σ.length ∧ ∀ j, j ∉ is → σ'[j]? = σ[j]?
  | [], [], σ, σ', h => by
    cases h
    exact ⟨rfl, fun _ _ => rfl⟩
  | i :: is, v :: vs, σ, σ', h => by
    obtain ⟨h1, h2⟩ := setL_keep (is := is) (vs := vs) (σ := σ.set i (some v)) h
    refine ⟨by rw [h1, List.length_set], fun j hj => ?_⟩
    rw [List.mem_cons, not_or] at hj
    rw [h2 j hj.2, List.getElem?_set_ne (Ne.symm hj.1)]
  | [], _ :: _, _, _, h => by cases h
  | _ :: _, [], _, _, h => by cases h
theorem sets_wipe {t : Tg} {K : PySem.W.Frag} {H : Hp} {v : V} {σ σ' : L2.St} (h : sets t K H v (wipe σ t.ixs) σ') : wipe σ' t.ixs = wipe σ t.ixs := by
  cases t with
  | nm i =>
    have h : σ' = (wipe σ [i]).set i (some v) := h
    show wipe σ' [i] = wipe σ [i]
    refine wipe_eq (by rw [h, List.length_set, wipe_length]) fun j hj => ?_
    rw [List.mem_singleton] at hj
    rw [h, List.getElem?_set_ne (Ne.symm hj)]
  | tp is =>
    obtain ⟨a, vs, _, _, e⟩ := h
    obtain ⟨h1, h2⟩ := setL_keep e
    exact wipe_eq (by rw [h1, wipe_length]) h2
def wipeR (ρ : Env) : List Nat → Env
  | [] => ρ
  | v :: vs => (wipeR ρ vs).set v .no
section
variable {K : PySem.W.Frag} {w : Wd} {σ : L2.St} {G G' H H' : Hp} {ρ : Env}
theorem Rep.setNo (r : Rep K w σ H G ρ) (i : Nat) (x : Option V) : Rep K w (σ.set i x) H G (ρ.set i .no) := by
  have hl := r.len
  refine ⟨r.base, by rw [List.length_set, List.length_set, hl], fun j e hj => ?_, fun j ds hj => ?_, fun j c ds hj => ?_, fun j k ds es a h1 h2 h3 h4 => ?_⟩
  · by_cases q : j = i
    · subst q
      cases (getset_self hj).1
    · rw [getset_ne q] at hj ⊢
      exact r.sh j e hj
  · by_cases q : j = i
    · subst q
      cases (getset_self hj).1
    · rw [getset_ne q] at hj ⊢
      exact r.own j ds hj
  · by_cases q : j = i
    · subst q
      cases (getset_self hj).1
    · rw [getset_ne q] at hj ⊢
      exact r.slf j c ds hj
  · by_cases q : j = i
    · subst q
      cases (getset_self h1).1
    · by_cases q' : k = i
      · subst q'
        cases (getset_self h2).1
      · rw [getset_ne q] at h1 h3
        rw [getset_ne q'] at h2 h4
        exact r.dis j k ds es a h1 h2 h3 h4
theorem Rep.wipe (r : Rep K w σ H G ρ) : ∀ vs : List Nat, Rep K w (L2.wipe σ vs) H G (wipeR ρ vs)
  | [] => r
  | v :: vs => (Rep.wipe r vs).setNo v none
/-- an object of nobody's is changed -/
theorem Rep.aside (r : Rep K w σ H G ρ) {a : Addr} {o : HO} (hg : G a = none) (h0 : w.H0 a = none) (hn : ∀ (i : Nat) (ds : Ow), ρ[i]? = some (.own ds) → σ[i]? ≠ some (some (.ref a))) : Rep K w σ (upd H a o) G ρ := by
  refine ⟨⟨fun c u hc => ?_, r.base.gext, fun c u hc => ?_, r.base.new⟩, r.len, r.sh, fun j fs hj => ?_, r.slf, r.dis⟩
  · have : c ≠ a := fun z => by
      rw [z, h0] at hc
      cases hc
    rw [upd_ne this]
    exact r.base.ext _ _ hc
  · have : c ≠ a := fun z => by
      rw [z, hg] at hc
      cases hc
    rw [upd_ne this]
    exact r.base.sub _ _ hc
  · obtain ⟨b, vs', k1, k2, k3, k4, k5⟩ := r.own j fs hj
    have : b ≠ a := fun z => by
      subst z
      exact hn j fs hj k1
    exact ⟨b, vs', k1, by rw [upd_ne this]; exact k2, k3, k4, k5⟩
theorem Grow.aside {Hs Gs : Hp} (g : Grow Hs Gs H G) {a : Addr} {o : HO} (h : Hs a = none) (hg : G a = none) : Grow Hs Gs (upd H a o) G := by
  refine ⟨fun c u hc => ?_, g.gg, fun c u hc => ?_, g.new⟩
  · rw [upd_ne (ne_of_none hc h)]
    exact g.hh _ _ hc
  · rw [upd_ne (ne_of_none hc hg)]
    exact g.sub _ _ hc
theorem Grow.still (g : Grow H G H' G') {a : Addr} {o : HO} (h : H a = some o) (hg : G a = none) : G' a = none := by
  cases q : G' a with
  | none => rfl
  | some u =>
    rcases g.new a (by rw [q]; exact fun z => nomatch z) with z | z
    · exact absurd hg z
    · rw [h] at z
      cases z
end

/-! ### list comprehensions -/
def compL (tg : Tg) (t : Tf) (f : Ef) : List D → Env → Option (List D)
  | [], _ => some []
  | d :: ds, ρ => (put tg d ρ).bind fun ρ1 => (t ρ1).bind fun b => if b = true then (f ρ1).bind fun e => (compL tg t f ds ρ).map fun r => e :: r else compL tg t f ds ρ
def aComp (fs : Af) (tg : Tg) (t : Tf) (f : Ef) : Af := fun ρ => (fs ρ).bind fun ds => if ds.length ≤ 16777216 then compL tg t f ds (wipeR ρ tg.ixs) else none
def tYesF : Tf := fun _ => some true
theorem PTs.imp {X : Cx} {ifs : List Expr} {t t' : TT} (h : PTs X ifs t) (hi : ∀ σ H Q, t' σ H Q → t σ H Q) : PTs X ifs t' := ⟨fun pins s σ H Q I q => h.run pins s σ H Q I (hi _ _ _ q)⟩
abbrev VTs (w : Wd) (X : Cx) (ifs : List Expr) (t : Tf) : Prop := PTs X ifs (tT X.K w t)
section
variable {X : Cx} {w : Wd} {e : Expr} {f : Ef} {fs : Af} {t : Tf} {tg : Tg} {pos : Pos} {K : PySem.W.Frag}
theorem vts_nil : VTs w X [] tYesF := PTs.imp pts_nil fun σ H Q ⟨ρ, G, b, r, hf, q⟩ => by
  cases hf
  exact q H G (Grow.refl r.base.sub)
theorem vts_one (h : VT w X e t) : VTs w X [e] t := pts_one h
theorem comp_imp : ∀ σ H Q, tF K w (aComp fs tg t f) σ H Q → tLc (tI K w fs) (fun v σ H Q => ∃ σ', sets tg K H v σ σ' ∧ Q σ' H) (tT K w t) (tP K w f) tg.ixs σ H Q := fun σ H Q ⟨ρ, G, zs, r, hf, q⟩ => by
  obtain ⟨ds, e0, hf⟩ := bind_some2 hf
  split at hf
  case isFalse => cases hf
  rename_i hlen
  refine ⟨ρ, G, ds, r, e0, fun J H1 G1 g1 wk D hD => ?_⟩
  have hDH : H D = none := g1.hh.free hD
  have hGD : G1 D = none := g1.sub.free hD
  have h0D : w.H0 D = none := r.base.ext.free hDH
  have nown : ∀ (i : Nat) (ds : Ow), ρ[i]? = some (.own ds) → σ[i]? ≠ some (some (.ref D)) := fun i ds hi e => by
    obtain ⟨b, us, e1, e2, _⟩ := r.own i ds hi
    rw [e] at e1
    cases e1
    rw [hDH] at e2
    cases e2
  refine ⟨fun i m H2 => m = ds.length - i ∧ i ≤ ds.length ∧ ∃ G2 us es rest, Rep K w σ H2 G2 ρ ∧ Same G1 G2 ∧ Grow H G H2 G2 ∧ H2 D = some (.lst us) ∧ G2 D = none ∧ Dens K w.cl G2 es us ∧ es.length ≤ i ∧ compL tg t f (ds.drop i) (wipeR ρ tg.ixs) = some rest ∧ es ++ rest = zs,
    ⟨ds.length, rfl, Nat.zero_le _, G1, [], [], zs, (r.go g1).aside hGD h0D nown, Same.refl _, g1.aside hDH hGD, upd_same, hGD, Dens.nil, Nat.zero_le _, hf, rfl⟩, ?_⟩
  rintro i m H2 ⟨rfl, hi, G2, us, es, rest, r2, s2, gr2, hD2, hG2, d2, le2, c2, z2⟩
  obtain ⟨w1, w2⟩ := wk H2 G2 s2 r2.base.sub
  by_cases hlt : i < ds.length
  · right
    rw [drop_at hlt, compL] at c2
    obtain ⟨ρ4, e1, c2⟩ := bind_some2 c2
    obtain ⟨b, e2, c2⟩ := bind_some2 c2
    obtain ⟨hgo, hy⟩ := w1 i ds[i] (List.getElem?_eq_getElem hlt)
    refine ⟨hgo, fun H' => ∃ G2 us es rest, Rep K w σ H' G2 ρ ∧ Same G1 G2 ∧ Grow H G H' G2 ∧ H' D = some (.lst us) ∧ G2 D = none ∧ Dens K w.cl G2 es us ∧ es.length ≤ i + 1 ∧ compL tg t f (ds.drop (i + 1)) (wipeR ρ tg.ixs) = some rest ∧ es ++ rest = zs,
      fun H' k => ⟨ds.length - (i + 1), by omega, rfl, hlt, k⟩, fun x H3 y => ?_⟩
    obtain ⟨G3, g3, z3⟩ := hy x H3 y
    have r3 := r2.go g3
    obtain ⟨σ4, k1, k2⟩ := put_ok (r3.wipe tg.ixs) e1 z3
    refine ⟨σ4, k1, sets_wipe k1, seqT k2 e2 fun H4 G4 g4 r4 => ?_⟩
    have g24 := g3.trans g4
    cases b with
    | false =>
      refine iteF ⟨G4, us, es, rest, r2.go g24, s2.trans g24.gg, gr2.trans g24, g24.hh _ _ hD2, g24.still hD2 hG2, d2.mono g24.gg, by omega, ?_, z2⟩
      rw [if_neg Bool.false_ne_true] at c2
      exact c2
    | true =>
      rw [if_pos rfl] at c2
      obtain ⟨e, e3, c2⟩ := bind_some2 c2
      obtain ⟨rest', e4, c2⟩ := map_some2 c2
      refine iteT (seqE r4 e3 fun yv H5 G5 g5 r5 z5 => ?_)
      have g25 := g24.trans g5
      have hG5 := g25.still hD2 hG2
      refine ⟨us, g25.hh _ _ hD2, line_lt (by rw [d2.length]; omega), G5, us ++ [yv], es ++ [e], rest', (r2.go g25).aside hG5 h0D nown, s2.trans g25.gg, (gr2.trans g25).aside hDH hG5, upd_same, hG5, (d2.mono g25.gg).append (Dens.cons z5 Dens.nil), ?_, e4, ?_⟩
      · rw [List.length_append, List.length_singleton]
        omega
      · rw [← z2, ← c2, List.append_assoc]
        rfl
  · left
    have e : i = ds.length := by omega
    subst e
    rw [List.drop_length, compL] at c2
    cases c2
    rw [List.append_nil] at z2
    subst z2
    exact ⟨w2, q D us H2 G2 gr2 hDH hD2 hG2 d2⟩
end
section
variable {X : Cx} {w : Wd} {elt tgx iter : Expr} {ifs : List Expr} {scope : Scope} {own : List (Str × Nat)} {pos : Pos} {f : Ef} {fs : Af} {t : Tf} {tg : Tg}
theorem vf_comp (hc : X.calm = true) (hN : X.N.Nodup) (hi : VI w X tgx iter fs) (ok : BlkOk X.N X.env.scope scope own) (ho : own.map (·.2) = tg.ixs)
    (hg : ∀ (s : Shared) (H : Hp) (C : Addr) (cl : List (Str × Addr)) (fp : List Addr), VG w (X.blk s H scope (compEnvC scope cl C X.env) fp) tgx tg) (ht : ∀ (s : Shared) (H : Hp) (C : Addr) (cl : List (Str × Addr)) (fp : List Addr), VTs w (X.blk s H scope (compEnvC scope cl C X.env) fp) ifs t)
    (he : ∀ (s : Shared) (H : Hp) (C : Addr) (cl : List (Str × Addr)) (fp : List Addr), VE w (X.blk s H scope (compEnvC scope cl C X.env) fp) elt f) (hs : ∀ x, foldedSetIterable iter X.env x = pure x := by intro _; rfl) :
    VF w X (.ListComp elt [⟨tgx, iter, ifs, 0⟩] scope pos) (aComp fs tg t f) :=
  PE.imp (pe_lc hc hN hi ok hg ht he hs) fun σ H Q h => by
    rw [ho]
    exact comp_imp σ H Q h
end

section
variable {X : Cx} {w : Wd} {elt tgx iter : Expr} {ifs : List Expr} {scope : Scope} {own : List (Str × Nat)} {pos spos py : Pos} {f : Ef} {fs : Af} {t : Tf} {tg : Tg} {i : Nat} {y : Str}
/-- y = [..] on one line: y has the list for its own -/
theorem vs_setC (hc : X.calm = true) (hN : X.N.Nodup) (hy : X.N[i]? = some y) (hyl : X.env.scope.names.lookup y = some .local)
    (hsw : swapsWith (.ListComp elt [⟨tgx, iter, ifs, 0⟩] scope pos) (some (.Name y py)) spos.line X.env = pure true) (hi : VI w X tgx iter fs) (ok : BlkOk X.N X.env.scope scope own) (ho : own.map (·.2) = tg.ixs)
    (hg : ∀ (s : Shared) (H : Hp) (C : Addr) (cl : List (Str × Addr)) (fp : List Addr), VG w (X.blk s H scope (compEnvC scope cl C X.env) fp) tgx tg) (ht : ∀ (s : Shared) (H : Hp) (C : Addr) (cl : List (Str × Addr)) (fp : List Addr), VTs w (X.blk s H scope (compEnvC scope cl C X.env) fp) ifs t)
    (he : ∀ (s : Shared) (H : Hp) (C : Addr) (cl : List (Str × Addr)) (fp : List Addr), VE w (X.blk s H scope (compEnvC scope cl C X.env) fp) elt f) (hs : ∀ x, foldedSetIterable iter X.env x = pure x := by intro _; rfl) :
    VS w X (.Assign [.Name y py] (.ListComp elt [⟨tgx, iter, ifs, 0⟩] scope pos) spos) (sSetF i (aComp fs tg t f)) :=
  PS.imp (ps_setLc hc hN hy hyl hsw hi ok hg ht he hs) fun Ds σ H ⟨ρ, G, r, q⟩ => by
    unfold sSetF at q
    cases e1 : aComp fs tg t f ρ with
    | none =>
      rw [e1] at q
      exact q.elim
    | some ds =>
      rw [e1] at q
      rw [ho]
      exact comp_imp σ H _ ⟨ρ, G, ds, r, e1, fun a vs H1 G1 g1 h0 h1 h2 h3 => q _ H1 G1 g1.gg (r.setOwn g1 i h0 h1 h2 ⟨vs, rfl, h3⟩ fun _ _ z => nomatch z)⟩
theorem vs_setCs (hc : X.calm = true) (hN : X.N.Nodup) (hy : X.N[i]? = some y) (hyl : X.env.scope.names.lookup y = some .local)
    (hsw : swapsWith (.ListComp elt [⟨tgx, iter, ifs, 0⟩] scope pos) (some (.Name y py)) spos.line X.env = pure true) (hi : VI w X tgx iter fs) (ok : BlkOk X.N X.env.scope scope own) (ho : own.map (·.2) = tg.ixs)
    (hg : ∀ (s : Shared) (H : Hp) (C : Addr) (cl : List (Str × Addr)) (fp : List Addr), VG w (X.blk s H scope (compEnvC scope cl C X.env) fp) tgx tg) (ht : ∀ (s : Shared) (H : Hp) (C : Addr) (cl : List (Str × Addr)) (fp : List Addr), VTs w (X.blk s H scope (compEnvC scope cl C X.env) fp) ifs t)
    (he : ∀ (s : Shared) (H : Hp) (C : Addr) (cl : List (Str × Addr)) (fp : List Addr), VE w (X.blk s H scope (compEnvC scope cl C X.env) fp) elt f) (hs : ∀ x, foldedSetIterable iter X.env x = pure x := by intro _; rfl) :
    VS w X (.Assign [.Name y py] (.ListComp elt [⟨tgx, iter, ifs, 0⟩] scope pos) spos) (sSet i (fL (aComp fs tg t f))) :=
  PS.imp (ps_setLc hc hN hy hyl hsw hi ok hg ht he hs) fun Ds σ H ⟨ρ, G, r, q⟩ => by
    unfold sSet at q
    cases e1 : fL (aComp fs tg t f) ρ with
    | none =>
      rw [e1] at q
      exact q.elim
    | some d =>
      rw [e1] at q
      rw [ho]
      exact comp_imp σ H _ (fL_imp σ H _ ⟨ρ, G, d, r, e1, fun v H1 G1 g1 z1 => q _ H1 G1 g1.gg ((r.go g1).setSh i z1)⟩)
end

/-! ### defs -/
inductive Ret where
  | ok (d : D) | fr (o : Ow) | stuck
def retOf : Out → Ret
  | .rt d => .ok d
  | .rf ds => .fr ds
  | .nx _ => .ok .non
  | _ => .stuck
def startR (n : Nat) (ds : List D) : Env := ds.map .sh ++ List.replicate (n - ds.length) .no
def runF (n : Nat) (F : Sf) (ds : List D) : Ret := retOf (F (startR n ds))
def retP (K : PySem.W.Frag) (cl : Nat → ClsT) (G H : Hp) (Q : VK) : Ret → Prop
  | .ok d => ∀ v H' G', Grow H G H' G' → Den K cl G' d v → Q v H'
  | .fr o => ∀ a ho H' G', Grow H G H' G' → H a = none → H' a = some ho → G' a = none → OwOk K cl G' o ho → Q (.ref a) H'
  | .stuck => False
/-- a def's promise by its mirror -/
def spF (K : PySem.W.Frag) (cl : Nat → ClsT) (np : Nat) (F : List D → Ret) : Sp := fun vs H Q _ => ∃ G ds, Same G H ∧ Dens K cl G ds vs ∧ ds.length = np ∧ retP K cl G H Q (F ds)
theorem start_rep {K : PySem.W.Frag} {cl : Nat → ClsT} {N : List Str} {G H : Hp} {ds : List D} {vs : List V} {sf : Addr} (s : Same G H) (h : Dens K cl G ds vs) (hl : ds.length ≤ N.length) : Rep K ⟨cl, G, H, sf⟩ (start N vs) H G (startR N.length ds) := by
  have hv := h.length
  have look : ∀ (i : Nat) (c : Cell), (startR N.length ds)[i]? = some c → c ≠ .no → ∃ d, c = .sh d ∧ ds[i]? = some d := fun i c hc hn => by
    unfold startR at hc
    by_cases hi : i < ds.length
    · rw [List.getElem?_append_left (by simpa using hi), List.getElem?_map, List.getElem?_eq_getElem hi] at hc
      cases hc
      exact ⟨_, rfl, List.getElem?_eq_getElem hi⟩
    · rw [List.getElem?_append_right (by simpa using hi), List.getElem?_replicate] at hc
      split at hc
      · cases hc
        exact absurd rfl hn
      · cases hc
  refine ⟨⟨Same.refl _, Same.refl _, s, fun b hb => .inl hb⟩, ?_, fun i d hi => ?_, fun i es hi => ?_, fun i c es hi => ?_, fun i j es fs a hi _ _ _ => ?_⟩
  · unfold L2.start startR
    rw [List.length_append, List.length_append, List.length_map, List.length_map, List.length_replicate, List.length_replicate, hv]
  · obtain ⟨d', e1, e2⟩ := look i _ hi (fun z => nomatch z)
    cases e1
    obtain ⟨v, k1, k2⟩ := h.get' e2
    refine ⟨v, ?_, k2⟩
    unfold L2.start
    have hlt := (List.getElem?_eq_some_iff.mp k1).1
    rw [List.getElem?_append_left (by simpa using hlt), List.getElem?_map, k1]
    rfl
  · obtain ⟨d', e1, _⟩ := look i _ hi (fun z => nomatch z)
    cases e1
  · obtain ⟨d', e1, _⟩ := look i _ hi (fun z => nomatch z)
    cases e1
  · obtain ⟨d', e1, _⟩ := look i _ hi (fun z => nomatch z)
    cases e1
theorem body_run {X : Cx} {cl : Nat → ClsT} {G H : Hp} {ds : List D} {vs : List V} {N : List Str} {F : Sf} {Q : VK} {sf : Addr} (s : Same G H) (h : Dens X.K cl G ds vs) (hl : ds.length ≤ N.length) (q : retP X.K cl G H Q (runF N.length F ds)) :
    tS X.K ⟨cl, G, H, sf⟩ F { nx := fun _ H' => Q .non H', rt := Q } (start N vs) H := by
  refine ⟨_, G, start_rep s h hl, ?_⟩
  unfold runF at q
  cases e : F (startR N.length ds) with
  | nx ρ =>
    rw [e] at q
    exact fun σ' H' G' s' r' => q .non H' G' r'.base.grow mk_non
  | bk ρ =>
    rw [e] at q
    exact q.elim
  | ct ρ =>
    rw [e] at q
    exact q.elim
  | rt d =>
    rw [e] at q
    exact fun v H' G' b z => q v H' G' b.grow z
  | rf ds =>
    rw [e] at q
    exact fun a vs H' G' b h0 h1 h2 z => q a vs H' G' b.grow h0 h1 h2 z
  | stuck =>
    rw [e] at q
    exact q.elim
theorem fn_ok {P : Program} {wd : World} {K : PySem.W.Frag} {mg : Str → Option Value} {base : Heap} {cl : Nat → ClsT} {x qual : Str} {st : Stmt} {f : Addr} {fd : FuncData} {N ps : List Str} {k : Nat} {F : Sf} (Fn : Fun K x qual st f fd) (S : FnScope N ps (defScope st))
    (body : ∀ (cdv : Value) (A : Around) (outer : List PySem.Env) (s : Shared) (H : Hp) (E : XK) (G0 H0 : Hp) (sf : Addr), Room k (A.deeper (envOfC qual (defScope st) s.heap.objs.size f cdv)) →
      VSs ⟨cl, G0, H0, sf⟩ (cxOf CX0 P wd K mg base N qual (defScope st) f cdv A outer s H E).nox (defBody st) F) :
    FnOk P wd K mg base CX0 (k + 1) f fd ps (spF K cl ps.length (runF N.length F)) := by
  refine Fn.ok S (fun vs H Q E h => ?_) (fun cdv A outer s H vs Q E hr h => ?_)
  · obtain ⟨G, ds, _, h2, h3, _⟩ := h
    rw [h2.length, h3]
  · obtain ⟨G, ds, h1, h2, h3, h4⟩ := h
    refine ⟨_, body cdv A outer s H E G H 0 hr, ?_⟩
    have hpl : ps.length ≤ N.length := by
      have := congrArg List.length S.pre
      rw [List.length_take] at this
      omega
    exact body_run (X := (cxOf CX0 P wd K mg base N qual (defScope st) f cdv A outer s H E).nox) h1 h2 (by omega) h4
def toD : Ret → Option D
  | .ok d => some d
  | .fr o => some o.toD
  | .stuck => none
def toFr : Ret → Option Ow
  | .fr o => some o
  | _ => none
def eCall (F : List D → Ret) (fs : Af) : Ef := fun ρ => (fs ρ).bind fun ds => toD (F ds)
def aCall (F : List D → Ret) (fs : Af) : Env → Option Ow := fun ρ => (fs ρ).bind fun ds => toFr (F ds)
/-- a def of the text, ready to be called -/
structure Def (P : Program) (wd : World) (K : PySem.W.Frag) (mg : Str → Option Value) (base : Heap) (cl : Nat → ClsT) (k : Nat) (x : Str) (np : Nat) (F : List D → Ret) : Prop where
  ex : ∃ (f : Addr) (fd : FuncData) (ps : List Str), mg x = some (.ref f) ∧ PySem.W.keepIn K (.ref f) = true ∧ Binds K fd ps [] ∧ FnOk P wd K mg base CX0 k f fd ps (spF K cl np F)
theorem Def.mono {P : Program} {wd : World} {K : PySem.W.Frag} {mg : Str → Option Value} {base : Heap} {cl : Nat → ClsT} {j k : Nat} {x : Str} {np : Nat} {F : List D → Ret} (d : Def P wd K mg base cl j x np F) (h : j ≤ k) : Def P wd K mg base cl k x np F :=
  let ⟨f, fd, ps, a, b, c, o⟩ := d.ex
  ⟨f, fd, ps, a, b, c, o.mono h⟩
section
variable {X : Cx} {w : Wd} {e : Expr} {es : List Expr} {fs : Af} {pos p : Pos} {x : Str} {k np : Nat} {F : List D → Ret}
theorem retP_of {K : PySem.W.Frag} {cl : Nat → ClsT} {G H : Hp} {Q : VK} {r : Ret} {d : D} (h : toD r = some d) (q : ∀ v H' G', Grow H G H' G' → Den K cl G' d v → Q v H') : retP K cl G H Q r := by
  cases r with
  | ok z =>
    cases h
    exact q
  | fr ds =>
    cases h
    intro a vs H' G' g h0 h1 h2 h3
    exact q (.ref a) H' _ (fresh_in g h0 h1 h2) ((h3.mono (same_upd h2)).den upd_same)
  | stuck => cases h
theorem ve_call (d : Def X.prog X.w X.K X.mg X.base w.cl k x np F) (hr : Room k X.A) (hg : Gl X x) (ha : VA w X (e :: es) fs) (hn : ∀ ρ ds, fs ρ = some ds → ds.length = np)
    (hdb : (x == ("__debug__" : Str)) = false := by decide) (he : starEach (e :: es) X.env = (false, eval e X.env) :: starEach es X.env := by rfl) (hpl : (backTo pos (starEach es X.env)).any (·.1) = false := by rfl) :
    VE w X (.Call (.Name x p) (e :: es) [] pos) (eCall F fs) := by
  obtain ⟨f, fd, ps, a, b, c, o⟩ := d.ex
  refine PE.imp (pe_call (E := E0) o hr hg a b c .nil pass0 ha hdb he hpl) fun σ H Q ⟨ρ, G, z, r, hf, q⟩ => ?_
  obtain ⟨ds, e1, e2⟩ := bind_some2 hf
  refine ⟨ρ, G, ds, r, e1, fun vs H1 G1 g1 z1 => ?_⟩
  show spF _ _ _ _ (vs ++ []) _ _ _
  rw [List.append_nil]
  exact ⟨G1, ds, g1.sub, z1, hn ρ ds e1, retP_of e2 fun v H' G' g' z' => q v H' G' (g1.trans g') z'⟩
theorem vn_call (d : Def X.prog X.w X.K X.mg X.base w.cl k x np F) (hr : Room k X.A) (hg : Gl X x) (ha : VA w X (e :: es) fs) (hn : ∀ ρ ds, fs ρ = some ds → ds.length = np)
    (hdb : (x == ("__debug__" : Str)) = false := by decide) (he : starEach (e :: es) X.env = (false, eval e X.env) :: starEach es X.env := by rfl) (hpl : (backTo pos (starEach es X.env)).any (·.1) = false := by rfl) :
    VN w X (.Call (.Name x p) (e :: es) [] pos) (aCall F fs) := by
  obtain ⟨f, fd, ps, a, b, c, o⟩ := d.ex
  refine PE.imp (pe_call (E := E0) o hr hg a b c .nil pass0 ha hdb he hpl) fun σ H Q ⟨ρ, G, z, r, hf, q⟩ => ?_
  obtain ⟨ds, e1, e2⟩ := bind_some2 hf
  refine ⟨ρ, G, ds, r, e1, fun vs H1 G1 g1 z1 => ?_⟩
  show spF _ _ _ _ (vs ++ []) _ _ _
  rw [List.append_nil]
  refine ⟨G1, ds, g1.sub, z1, hn ρ ds e1, ?_⟩
  cases er : F ds with
  | fr ds' =>
    rw [er] at e2
    cases e2
    exact fun a vs H' G' g' h0 h1 h2 h3 => q a vs H' G' (g1.trans g') (g1.hh.free h0) h1 h2 h3
  | ok _ =>
    rw [er] at e2
    cases e2
  | stuck =>
    rw [er] at e2
    cases e2
/-- the number of written arguments -/
def ALen (fs : Af) (n : Nat) : Prop := ∀ ρ ds, fs ρ = some ds → ds.length = n
theorem alen_nil : ALen aNil 0 := fun ρ ds h => by
  cases h
  rfl
theorem alen_cons {f : Ef} {n : Nat} (h : ALen fs n) : ALen (aCons f fs) (n + 1) := fun ρ ds q => by
  obtain ⟨d, r, _, e2, rfl⟩ := aCons_some q
  rw [List.length_cons, h ρ r e2]
end
end Fw

/-! Fw6: further rules; what a def of the text is to have. -/
namespace Fw
open PySem PySem.Spec PyProof.Rows L2

/-- the built-ins that the text reads are not shadowed -/
structure Bt (mg : Str → Option Value) : Prop where
  len : mg "len" = none
  int : mg "int" = none
  bool : mg "bool" = none
  str : mg "str" = none
  range : mg "range" = none
  isinstance : mg "isinstance" = none
  tuple : mg "tuple" = none
  list : mg "list" = none
  dict : mg "dict" = none
  set : mg "set" = none
  max : mg "max" = none
  min : mg "min" = none
  sum : mg "sum" = none
  any : mg "any" = none
  all : mg "all" = none
  sorted : mg "sorted" = none
  enumerate : mg "enumerate" = none
  zip : mg "zip" = none
  reversed : mg "reversed" = none
  repr : mg "repr" = none
/-- a def of the text stands under its name -/
structure At (K : PySem.W.Frag) (mg : Str → Option Value) (x : Str) (st : Stmt) : Prop where
  ex : ∃ (f : Addr) (fd : FuncData), mg x = some (.ref f) ∧ Fun K x x st f fd
abbrev XX (P : Program) (wd : World) (K : PySem.W.Frag) (mg : Str → Option Value) (base : Heap) (N : List Str) (qual : Str) (sc : Scope) (f : Addr) (cdv : Value) (A : Around) (outer : List PySem.Env) (s : Shared) (H : Hp) (E : XK) : Cx :=
  (cxOf CX0 P wd K mg base N qual sc f cdv A outer s H E).nox
section
variable {P : Program} {wd : World} {K : PySem.W.Frag} {mg : Str → Option Value} {base : Heap} {cl : Nat → ClsT} {x : Str} {st : Stmt} {N ps : List Str} {k : Nat}
theorem def_of {F : Sf} (a : At K mg x st) (S : FnScope N ps (defScope st)) (hb : ∀ f fd, Fun K x x st f fd → Binds K fd ps [])
    (body : ∀ (f : Addr) (cdv : Value) (A : Around) (outer : List PySem.Env) (s : Shared) (H : Hp) (E : XK) (G0 H0 : Hp) (sf : Addr), Room k (A.deeper (envOfC x (defScope st) s.heap.objs.size f cdv)) →
      VSs ⟨cl, G0, H0, sf⟩ (XX P wd K mg base N x (defScope st) f cdv A outer s H E) (defBody st) F) : Def P wd K mg base cl (k + 1) x ps.length (runF N.length F) := by
  obtain ⟨f, fd, e, Fn⟩ := a.ex
  exact ⟨f, fd, ps, e, Fn.kp, hb f fd Fn, fn_ok Fn S fun cdv A outer s H E G0 H0 sf hr => body f cdv A outer s H E G0 H0 sf hr⟩
theorem def_stuck (a : At K mg x st) (hb : ∀ f fd, Fun K x x st f fd → Binds K fd ps []) : Def P wd K mg base cl k x ps.length (fun _ => .stuck) := by
  obtain ⟨f, fd, e, Fn⟩ := a.ex
  refine ⟨f, fd, ps, e, Fn.kp, hb f fd Fn, ⟨fun vs H Q E h => ?_, fun A outer s H args us vs Q E hr he hb hv h => ?_⟩⟩
  · obtain ⟨_, _, _, _, _, z⟩ := h
    exact z.elim
  · obtain ⟨_, _, _, _, _, z⟩ := h
    exact z.elim
end
section
variable {X : Cx} {w : Wd} {e ea eb ec : Expr} {es : List Expr} {f g h : Ef} {fs : Af} {pos p : Pos} {x : Str} {K : PySem.W.Frag} {cl : Nat → ClsT}
theorem ve_ty {n : String} (hg : Gl X x) (hm : X.mg x = none) (hv : bootBuiltins x = some (.type n)) (hn : x ≠ "__name__" := by decide) (hd : (x == ("__debug__" : Str)) = false := by decide) : VE w X (.Name x pos) (eC (.ty n)) :=
  PE.imp (pe_bltn (v := .ty n) hg hm hv rfl hn hd) fun σ H Q ⟨ρ, G, d, r, hf, q⟩ => by
    cases hf
    exact q _ H G (Grow.refl r.base.sub) mk_ty
/-! ### a < b < c -/
theorem ve_chain {op op' : CmpOp} {r r' : R2} {o o' : D → D → Option D} (ho : OpR X (compareOp op) r) (ho' : OpR X (compareOp op') r') (hr : Res2 X.K w.cl r o) (hr' : Res2 X.K w.cl r' o') (ha : VO w X ea f) (hb : VO w X eb g) (hc : VO w X ec h) (hm : lastMarks [op, op'] [eb, ec] = false := by with_unfolding_all rfl) :
    VE w X (.Compare ea [op, op'] [eb, ec] pos) (tChainF o o' f g h) := PE.imp (pe_chain ho ho' ha hb hc hm) fun σ H Q ⟨ρ, G, z, rp, hf, q⟩ => by
  unfold tChainF at hf
  obtain ⟨a, e1, hf⟩ := bind_some2 hf
  obtain ⟨b, e2, hf⟩ := bind_some2 hf
  refine seqO rp e1 fun x H1 G1 g1 r1 z1 => ?_
  refine seqO r1 e2 fun y H2 G2 g2 r2 z2 => ?_
  have z1' := z1.mono g2.gg g2.hh
  have gg := g1.trans g2
  cases e3 : o a b with
  | none =>
    rw [e3] at hf
    cases hf
  | some c =>
    rw [e3] at hf
    refine hr a b c e3 H2 G2 x y _ g2.sub z1' z2 fun v H3 G3 g3 z3 => ?_
    split at hf
    · rename_i e4
      cases e4
      obtain ⟨d, e5, hf⟩ := bind_some2 hf
      refine ⟨true, den_bl z3, iteT (seqO (r2.go g3) e5 fun u H4 G4 g4 r4 z4 => ?_)⟩
      exact hr' b d z hf H4 G4 y u Q g4.sub (z2.mono (g3.trans g4).gg (g3.trans g4).hh) z4 fun v H' G' g' zz => q v H' G' (gg.trans (g3.trans (g4.trans g'))) zz
    · rename_i e4
      cases e4
      cases hf
      exact ⟨false, den_bl z3, iteF (q _ H3 G3 (gg.trans g3) mk_bl)⟩
    · cases hf
theorem vt_chain {op op' : CmpOp} {r r' : R2} {o o' : D → D → Option D} (ho : OpR X (compareOp op) r) (ho' : OpR X (compareOp op') r') (hr : Res2 X.K w.cl r o) (hr' : Res2 X.K w.cl r' o') (ha : VO w X ea f) (hb : VO w X eb g) (hc : VO w X ec h) (hm : lastMarks [op, op'] [eb, ec] = false := by with_unfolding_all rfl) :
    VT w X (.Compare ea [op, op'] [eb, ec] pos) (tB1 (tChainF o o' f g h)) := PT.imp (pt_chain ho ho' ha hb hc hm) fun σ H Q ⟨ρ, G, k, rp, hf, q⟩ => by
  have hf := asB_some hf
  unfold tChainF at hf
  obtain ⟨a, e1, hf⟩ := bind_some2 hf
  obtain ⟨b, e2, hf⟩ := bind_some2 hf
  refine seqO rp e1 fun x H1 G1 g1 r1 z1 => ?_
  refine seqO r1 e2 fun y H2 G2 g2 r2 z2 => ?_
  have z1' := z1.mono g2.gg g2.hh
  have gg := g1.trans g2
  cases e3 : o a b with
  | none =>
    rw [e3] at hf
    cases hf
  | some c =>
    rw [e3] at hf
    refine hr a b c e3 H2 G2 x y _ g2.sub z1' z2 fun v H3 G3 g3 z3 => ?_
    split at hf
    · rename_i e4
      cases e4
      obtain ⟨d, e5, hf⟩ := bind_some2 hf
      refine ⟨true, den_bl z3, iteT (seqO (r2.go g3) e5 fun u H4 G4 g4 r4 z4 => ?_)⟩
      exact hr' b d _ hf H4 G4 y u _ g4.sub (z2.mono (g3.trans g4).gg (g3.trans g4).hh) z4 fun v H' G' g' zz => ⟨k, den_bl zz, q H' G' (gg.trans (g3.trans (g4.trans g')))⟩
    · rename_i e4
      cases e4
      cases hf
      exact ⟨false, den_bl z3, iteF ⟨false, rfl, q H3 G3 (gg.trans g3)⟩⟩
    · cases hf
/-! ### times -/
def oMul (d e : D) : Option D := oMulI d e
def rMulD (K : PySem.W.Frag) : R2 := rI CMul fun i j => .int (i * j)
theorem op_mulD : OpR X (binaryOp .Mult) (rMulD X.K) := op_mul
theorem r_mul : Res2 K cl (rMulD K) oMul := r_mulI
/-! ### is of bools -/
def oIsB (d e : D) : Option D := match d, e with
  | .bl a, .bl b => some (.bl (decide (a = b)))
  | _, _ => none
def oNotB (d e : D) : Option D := match d, e with
  | .bl a, .bl b => some (.bl (!decide (a = b)))
  | _, _ => none
theorem r_isB : Res2 K cl rIsB oIsB := by
  intro d e z hz H G x y Q s hx hy q
  unfold oIsB at hz
  split at hz
  · rename_i a b
    cases hz
    exact ⟨a, b, obs_bl hx, obs_bl hy, q _ H G (Grow.refl s) mk_bl⟩
  · cases hz
theorem r_notB : Res2 K cl rNotB oNotB := by
  intro d e z hz H G x y Q s hx hy q
  unfold oNotB at hz
  split at hz
  · rename_i a b
    cases hz
    exact ⟨a, b, obs_bl hx, obs_bl hy, q _ H G (Grow.refl s) mk_bl⟩
  · cases hz
/-! ### sorted of ints -/
def sortI (ns : List Int) : List Int := ns.mergeSort fun a b => decide (a ≤ b)
theorem sortI_perm (ns : List Int) : (sortI ns).Perm ns := List.mergeSort_perm _ _
theorem sortI_sorted (ns : List Int) : (sortI ns).Pairwise (· ≤ ·) := by
  have h := List.pairwise_mergeSort (le := fun a b : Int => decide (a ≤ b)) (fun a b c h1 h2 => by simp at *; omega) (fun a b => by simp; omega) ns
  exact h.imp fun h => by simpa using h
theorem sorted_uniq : ∀ {l1 l2 : List Int}, l1.Perm l2 → l1.Pairwise (· ≤ ·) → l2.Pairwise (· ≤ ·) → l1 = l2
  | [], l2, p, _, _ => (List.nil_perm.mp p).symm
  | a :: r, [], p, _, _ => absurd (List.perm_nil.mp p) (by simp)
  | a :: r, b :: t, p, h1, h2 => by
    have ha : a ∈ b :: t := p.mem_iff.mp List.mem_cons_self
    have hb : b ∈ a :: r := p.mem_iff.mpr List.mem_cons_self
    have h1' := List.pairwise_cons.mp h1
    have h2' := List.pairwise_cons.mp h2
    have e : a = b := by
      rcases List.mem_cons.mp ha with e | ha
      · exact e
      · rcases List.mem_cons.mp hb with e | hb
        · exact e.symm
        · have := h1'.1 b hb
          have := h2'.1 a ha
          omega
    subst e
    rw [sorted_uniq (List.Perm.cons_inv p) h1'.2 h2'.2]
def oSorted : List D → Option (List D)
  | [d] => ((seqOf d).bind intsOf).map fun ns => (sortI ns).map D.int
  | _ => none
theorem r_sorted : ResCF K cl (rSortedI K) oSorted := by
  intro ds z hz H G vs Q s hv q
  unfold oSorted at hz
  split at hz
  · obtain ⟨ns, e1, rfl⟩ := map_some2 hz
    obtain ⟨v, rfl, h1⟩ := obsl1 hv
    obtain ⟨a, rfl, h2⟩ := seqInts s h1 e1
    refine ⟨a, ns, rfl, h2, fun ns' p hp hs hn => ?_⟩
    rw [sorted_uniq (hp.trans (sortI_perm ns).symm) hs (sortI_sorted ns)]
    exact new_lst s hn (ints_dens _) q
  · cases hz
end
end Fw

/-! Fw7: classes. -/
namespace Fw
open PySem PySem.Spec PyProof.Rows L2

structure ClsOk (K : PySem.W.Frag) (c : ClsT) (names : List Str) : Prop where
  cls : Cls K c.addr
  nm : c.names = names
  no : ∀ f ∈ names, NoAttr K c.addr f
  nd : names.Nodup
  few : names.length ≤ 900
theorem zip_lookup : ∀ {names : List Str} {vs : List V} {i : Nat} {f : Str} {v : V}, names.Nodup → names[i]? = some f → vs[i]? = some v → (names.zip vs).lookup f = some v
  | [], _, _, _, _, _, h, _ => by simp at h
  | _ :: _, [], _, _, _, _, _, h => by simp at h
  | n :: ns, u :: us, 0, f, v, nd, h1, h2 => by
    simp at h1 h2
    subst h1 h2
    simp
  | n :: ns, u :: us, i + 1, f, v, nd, h1, h2 => by
    have h1 : ns[i]? = some f := by simpa using h1
    have ne : (f == n) = false := by
      rw [beq_eq_false_iff_ne]
      rintro rfl
      exact (List.nodup_cons.mp nd).1 (List.mem_of_getElem? h1)
    rw [List.zip_cons_cons, List.lookup_cons, ne]
    exact zip_lookup (List.nodup_cons.mp nd).2 h1 (by simpa using h2)
theorem zip_none : ∀ {names : List Str} {vs : List V} {f : Str}, f ∉ names → (names.zip vs).lookup f = none
  | [], _, _, _ => by simp
  | _ :: _, [], _, _ => by simp
  | n :: ns, u :: us, f, h => by
    rw [List.mem_cons, not_or] at h
    rw [List.zip_cons_cons, List.lookup_cons, beq_eq_false_iff_ne.mpr h.1]
    exact zip_none h.2
theorem putF_new : ∀ {names : List Str} {vs : List V} {f : Str} {y : V}, names.Nodup → names[vs.length]? = some f → putF f y (names.zip vs) = names.zip (vs ++ [y])
  | [], _, _, _, _, h => by simp at h
  | n :: ns, [], f, y, _, h => by
    simp at h
    subst h
    simp [putF]
  | n :: ns, u :: us, f, y, nd, h => by
    have h : ns[us.length]? = some f := by simpa using h
    have ne : n ≠ f := by
      rintro rfl
      exact (List.nodup_cons.mp nd).1 (List.mem_of_getElem? h)
    rw [List.zip_cons_cons, List.cons_append, List.zip_cons_cons]
    show (if n = f then (n, y) :: ns.zip us else (n, u) :: putF f y (ns.zip us)) = _
    rw [if_neg ne, putF_new (List.nodup_cons.mp nd).2 h]
theorem putF_old : ∀ {names : List Str} {vs : List V} {f : Str} {y : V} {j : Nat}, names.Nodup → names[j]? = some f → j < vs.length → putF f y (names.zip vs) = names.zip (vs.set j y)
  | [], _, _, _, _, _, h, _ => by simp at h
  | n :: ns, [], f, y, j, _, h, hj => by simp at hj
  | n :: ns, u :: us, f, y, 0, nd, h, _ => by
    simp at h
    subst h
    simp [putF]
  | n :: ns, u :: us, f, y, j + 1, nd, h, hj => by
    have h : ns[j]? = some f := by simpa using h
    have ne : n ≠ f := by
      rintro rfl
      exact (List.nodup_cons.mp nd).1 (List.mem_of_getElem? h)
    rw [List.zip_cons_cons, List.set_cons_succ, List.zip_cons_cons]
    show (if n = f then (n, y) :: ns.zip us else (n, u) :: putF f y (ns.zip us)) = _
    rw [if_neg ne, putF_old (List.nodup_cons.mp nd).2 h (by simpa using hj)]

section
variable {X : Cx} {w : Wd} {e o : Expr} {es : List Expr} {f g : Ef} {fs : Af} {pos pos' p : Pos} {x fn : Str} {c i j : Nat} {names : List Str}
/-! ### fields -/
def oFld (c i : Nat) : D → Option D
  | .ins c' ds => if c' = c then ds[i]? else none
  | _ => none
theorem ve_fld (k : ClsOk X.K (w.cl c) names) (i : Nat) (hi : names[i]? = some fn) (he : VO w X e f) (hb : attributeBase e fn X.env (eval e X.env) = eval e X.env := by rfl) : VE w X (.Attribute e fn pos) (e1o (oFld c i) f) :=
  PE.imp (pe_fld he hb) fun σ H Q ⟨ρ, G, z, rp, hf, q⟩ => by
    obtain ⟨d, e1, e2⟩ := bind_some2 hf
    refine seqO rp e1 fun v H1 G1 g1 r1 z1 => ?_
    unfold oFld at e2
    split at e2
    · rename_i c' ds
      split at e2
      · rename_i hc
        subst hc
        obtain ⟨a, dx, vs, rfl, h1, h2⟩ := obs_ins z1
        obtain ⟨u, k1, k2⟩ := h2.get' e2
        refine ⟨a, _, dx, _, u, rfl, h1, k.cls, k.no _ (List.mem_of_getElem? hi), ?_, q u H1 G1 g1 k2⟩
        rw [k.nm]
        exact zip_lookup k.nd hi k1
      · cases e2
    · cases e2
/-- self.f = e, self an object of one's own -/
def sFst (i c j : Nat) (f : Ef) : Sf := fun ρ => match cellAt ρ i, f ρ with
  | .own (.obj c' ds), some d => if c' = c then (if ds.length = j then .nx (ρ.set i (.own (.obj c (ds ++ [d])))) else if j < ds.length then .nx (ρ.set i (.own (.obj c (ds.set j d)))) else .stuck) else .stuck
  | _, _ => .stuck
theorem vs_fst (k : ClsOk X.K (w.cl c) names) (j : Nat) (hj : names[j]? = some fn) (ho : PE X o (tVar i)) (he : VE w X e f) (hs : swapsWith e (some (.Attribute o fn pos')) pos.line X.env = pure false := by rfl) :
    VS w X (.Assign [.Attribute o fn pos'] e pos) (sFst i c j f) := PS.imp (ps_fld ho he hs) fun Ds σ H ⟨ρ, G, r, q⟩ => by
  unfold sFst at q
  split at q
  · rename_i c' ds d e1 e2
    split at q
    · rename_i hc
      subst hc
      have hi := cellAt_get e1 (fun z => nomatch z)
      obtain ⟨a, ho, k1, k2, k3, k4, dx, vs, rfl, k5⟩ := r.own i _ hi
      have hsf : a = w.sf := by
        have k6 := r.slf i _ _ hi
        rw [k1] at k6
        cases k6
        rfl
      refine seqE r e2 fun u H1 G1 g1 r1 z1 => ?_
      refine ⟨_, k1, a, _, dx, _, rfl, g1.hh _ _ k2, k.cls, k.no _ (List.mem_of_getElem? hj), ?_, ?_⟩
      · rw [List.length_zip, k.nm]
        have := k.few
        omega
      · have hl := k5.length
        rw [k.nm]
        split at q
        · rename_i hjl
          rw [putF_new k.nd (by rw [hl, hjl]; exact hj), ← k.nm]
          exact q _ _ G1 g1.gg (r1.change hi k1 ⟨dx, _, rfl, (k5.mono g1.gg).append (Dens.cons z1 Dens.nil)⟩ fun _ _ _ => hsf)
        · split at q
          · rename_i hjl
            rw [putF_old k.nd hj (by rw [hl]; exact hjl), ← k.nm]
            exact q _ _ G1 g1.gg (r1.change hi k1 ⟨dx, _, rfl, (k5.mono g1.gg).set j z1⟩ fun _ _ _ => hsf)
          · exact q.elim
    · exact q.elim
  · exact q.elim

/-! ### __init__ and C(..) -/
def runI (c n : Nat) (F : Sf) (ds : List D) : Option (List D) := match F (.own (.obj c []) :: (startR (n - 1) ds)) with
  | .nx ρ => match cellAt ρ 0 with
    | .own (.obj c' zs) => if c' = c then some zs else none
    | _ => none
  | _ => none
def dele (H : Hp) (a : Addr) : Hp := fun b => if b = a then none else H b
theorem dele_ne {H : Hp} {a b : Addr} (h : b ≠ a) : dele H a b = H b := if_neg h
theorem dele_same {H : Hp} {a : Addr} : dele H a a = none := if_pos rfl
def spI (K : PySem.W.Frag) (cl : Nat → ClsT) (c np : Nat) (F : List D → Option (List D)) : Sp := fun vs H Q _ => ∃ G ds x dx us, vs = .ref x :: us ∧ H x = some (.ins (cl c).addr dx []) ∧ G x = none ∧ Same G H ∧ Dens K cl G ds us ∧ ds.length = np ∧
  match F ds with
  | none => False
  | some zs => ∀ H' G' dx' ws, Grow (dele H x) G H' G' → G' x = none → H' x = some (.ins (cl c).addr dx' ((cl c).names.zip ws)) → Dens K cl G' zs ws → Q .non H'
theorem init_ok {P : Program} {wd : World} {K : PySem.W.Frag} {mg : Str → Option Value} {base : Heap} {cl : Nat → ClsT} {nm qual : Str} {st : Stmt} {fa : Addr} {fd : FuncData} {N ps : List Str} {k : Nat} {F : Sf} (Fn : Fun K nm qual st fa fd) (S : FnScope N ps (defScope st)) (hp : 0 < ps.length)
    (body : ∀ (cdv : Value) (A : Around) (outer : List PySem.Env) (s : Shared) (H : Hp) (E : XK) (G0 H0 : Hp) (sf : Addr), Room k (A.deeper (envOfC qual (defScope st) s.heap.objs.size fa cdv)) →
      VSs ⟨cl, G0, H0, sf⟩ (XX P wd K mg base N qual (defScope st) fa cdv A outer s H E) (defBody st) F) :
    FnOk P wd K mg base CX0 (k + 1) fa fd ps (spI K cl c (ps.length - 1) (runI c N.length F)) := by
  refine Fn.ok S (fun vs H Q E h => ?_) (fun cdv A outer s H vs Q E hr h => ?_)
  · obtain ⟨G, ds, x, dx, us, rfl, _, _, _, h2, h3, _⟩ := h
    rw [List.length_cons, h2.length, h3]
    omega
  · obtain ⟨G, ds, x, dx, us, rfl, hx, hgx, hs, h2, h3, h4⟩ := h
    refine ⟨_, body cdv A outer s H E G (dele H x) x hr, ?_⟩
    have hpl : ps.length ≤ N.length := by
      have := congrArg List.length S.pre
      rw [List.length_take] at this
      omega
    have hv := h2.length
    refine ⟨.own (.obj c []) :: startR (N.length - 1) ds, G, ⟨⟨fun b u hb => ?_, Same.refl _, hs, fun b hb => .inl hb⟩, ?_, fun i d hi => ?_, fun i u hi => ?_, fun i c' u hi => ?_, fun i j u u' a hi hj _ _ => ?_⟩, ?_⟩
    · have hb : dele H x b = some u := hb
      by_cases q : b = x
      · rw [q, dele_same] at hb
        cases hb
      · rw [dele_ne q] at hb
        exact hb
    · unfold L2.start startR
      rw [List.length_append, List.length_map, List.length_replicate, List.length_cons, List.length_cons, List.length_append, List.length_map, List.length_replicate]
      omega
    · cases i with
      | zero => cases hi
      | succ i =>
        have hi : (startR (N.length - 1) ds)[i]? = some (.sh d) := by simpa using hi
        unfold startR at hi
        by_cases hlt : i < ds.length
        · rw [List.getElem?_append_left (by simpa using hlt), List.getElem?_map] at hi
          obtain ⟨d', e1, e2⟩ := map_some2 hi
          cases e2
          obtain ⟨v, k1, k2⟩ := h2.get' e1
          refine ⟨v, ?_, k2⟩
          unfold L2.start
          have hlv := (List.getElem?_eq_some_iff.mp k1).1
          rw [List.getElem?_append_left (by simpa using hlv), List.getElem?_map, List.getElem?_cons_succ, k1]
          rfl
        · rw [List.getElem?_append_right (by simpa using hlt), List.getElem?_replicate] at hi
          split at hi
          · cases hi
          · cases hi
    · cases i with
      | zero =>
        cases hi
        refine ⟨x, _, ?_, hx, hgx, dele_same, dx, [], by rw [List.zip_nil_right], Dens.nil⟩
        unfold L2.start
        simp
      | succ i =>
        have hi : (startR (N.length - 1) ds)[i]? = some (.own u) := by simpa using hi
        unfold startR at hi
        by_cases hlt : i < ds.length
        · rw [List.getElem?_append_left (by simpa using hlt), List.getElem?_map] at hi
          obtain ⟨d', e1, e2⟩ := map_some2 hi
          cases e2
        · rw [List.getElem?_append_right (by simpa using hlt), List.getElem?_replicate] at hi
          split at hi
          · cases hi
          · cases hi
    · cases i with
      | zero =>
        unfold L2.start
        simp
      | succ i =>
        have hi : (startR (N.length - 1) ds)[i]? = some (.own (.obj c' u)) := by simpa using hi
        unfold startR at hi
        by_cases hlt : i < ds.length
        · rw [List.getElem?_append_left (by simpa using hlt), List.getElem?_map] at hi
          obtain ⟨d', e1, e2⟩ := map_some2 hi
          cases e2
        · rw [List.getElem?_append_right (by simpa using hlt), List.getElem?_replicate] at hi
          split at hi
          · cases hi
          · cases hi
    · have only : ∀ (i : Nat) (u : Ow), (Cell.own (.obj c []) :: startR (N.length - 1) ds)[i]? = some (.own u) → i = 0 := fun i u hi => by
        cases i with
        | zero => rfl
        | succ i =>
          have hi : (startR (N.length - 1) ds)[i]? = some (.own u) := by simpa using hi
          unfold startR at hi
          by_cases hlt : i < ds.length
          · rw [List.getElem?_append_left (by simpa using hlt), List.getElem?_map] at hi
            obtain ⟨d', e1, e2⟩ := map_some2 hi
            cases e2
          · rw [List.getElem?_append_right (by simpa using hlt), List.getElem?_replicate] at hi
            split at hi
            · cases hi
            · cases hi
      rw [only i u hi, only j u' hj]
    · unfold runI at h4
      cases e : F (.own (.obj c []) :: startR (N.length - 1) ds) with
      | nx ρ =>
        rw [e] at h4
        dsimp only at h4
        cases e2 : cellAt ρ 0 with
        | own u =>
          rw [e2] at h4
          cases u with
          | obj c' zs =>
            dsimp only at h4
            by_cases hc : c' = c
            · subst hc
              rw [if_pos rfl] at h4
              intro σ' H' G' s' r'
              have hi := cellAt_get e2 (fun z => nomatch z)
              obtain ⟨a, ho, k1, k2, k3, k4, dx', ws, rfl, k5⟩ := r'.own 0 _ hi
              have hax : a = x := by
                have k6 := r'.slf 0 _ _ hi
                rw [k1] at k6
                cases k6
                rfl
              subst hax
              exact h4 H' G' dx' ws r'.base.grow k3 k2 k5
            · rw [if_neg hc] at h4
              exact h4.elim
          | lst _ => exact h4.elim
          | dic _ _ => exact h4.elim
        | no =>
          rw [e2] at h4
          exact h4.elim
        | sh _ =>
          rw [e2] at h4
          exact h4.elim
      | bk ρ =>
        rw [e] at h4
        exact h4.elim
      | ct ρ =>
        rw [e] at h4
        exact h4.elim
      | rt d =>
        rw [e] at h4
        exact h4.elim
      | rf ds =>
        rw [e] at h4
        exact h4.elim
      | stuck =>
        rw [e] at h4
        exact h4.elim
end
end Fw

/-! Fw8: objects made, properties, methods, len of an object. -/
namespace Fw
open PySem PySem.Spec PyProof.Rows L2

/-- a class ready to be called -/
structure MkD (P : Program) (wd : World) (K : PySem.W.Frag) (mg : Str → Option Value) (base : Heap) (cl : Nat → ClsT) (k c : Nat) (x : Str) (np : Nat) (F : List D → Option (List D)) : Prop where
  ex : ∃ (f : Addr) (fd : FuncData) (ps : List Str), mg x = some (.ref (cl c).addr) ∧ Mk K (cl c).addr f ∧ Binds K fd ps [] ∧ FnOk P wd K mg base CX0 k f fd ps (spI K cl c np F)
structure PrD (P : Program) (wd : World) (K : PySem.W.Frag) (mg : Str → Option Value) (base : Heap) (cl : Nat → ClsT) (k c : Nat) (fn : Str) (F : List D → Ret) : Prop where
  ex : ∃ (p g : Addr) (fd : FuncData) (ps : List Str), PropOf K (cl c).addr fn p g ∧ Binds K fd ps [] ∧ FnOk P wd K mg base CX0 k g fd ps (spF K cl 1 F)
structure MtD (P : Program) (wd : World) (K : PySem.W.Frag) (mg : Str → Option Value) (base : Heap) (cl : Nat → ClsT) (k c : Nat) (m : Str) (np : Nat) (F : List D → Ret) : Prop where
  ex : ∃ (f : Addr) (fd : FuncData) (ps : List Str), Meth K (cl c).addr m f ∧ Binds K fd ps [] ∧ FnOk P wd K mg base CX0 k f fd ps (spF K cl np F)
theorem MkD.mono {P wd K mg base cl j k c x np F} (d : MkD P wd K mg base cl j c x np F) (h : j ≤ k) : MkD P wd K mg base cl k c x np F :=
  let ⟨f, fd, ps, a, b, e, o⟩ := d.ex
  ⟨f, fd, ps, a, b, e, o.mono h⟩
theorem PrD.mono {P wd K mg base cl j k c x F} (d : PrD P wd K mg base cl j c x F) (h : j ≤ k) : PrD P wd K mg base cl k c x F :=
  let ⟨p, f, fd, ps, a, b, o⟩ := d.ex
  ⟨p, f, fd, ps, a, b, o.mono h⟩
theorem MtD.mono {P wd K mg base cl j k c x np F} (d : MtD P wd K mg base cl j c x np F) (h : j ≤ k) : MtD P wd K mg base cl k c x np F :=
  let ⟨f, fd, ps, a, b, o⟩ := d.ex
  ⟨f, fd, ps, a, b, o.mono h⟩
section
variable {X : Cx} {w : Wd} {e o : Expr} {es : List Expr} {f g : Ef} {fs : Af} {pos pos' apos p : Pos} {x fn m : Str} {c i j k np : Nat} {names : List Str}
def aMake (c : Nat) (F : List D → Option (List D)) (fs : Af) : Env → Option Ow := fun ρ => (fs ρ).bind fun ds => (F ds).map fun zs => .obj c zs
theorem vn_make {F : List D → Option (List D)} (d : MkD X.prog X.w X.K X.mg X.base w.cl k c x np F) (hr : Room (k + 1) X.A) (hg : Gl X x) (ha : VA w X (e :: es) fs) (hn : ALen fs np)
    (hdb : (x == ("__debug__" : Str)) = false := by decide) (he : starEach (e :: es) X.env = (false, eval e X.env) :: starEach es X.env := by rfl) (hpl : (backTo pos (starEach es X.env)).any (·.1) = false := by rfl) :
    VN w X (.Call (.Name x p) (e :: es) [] pos) (aMake c F fs) := by
  obtain ⟨f, fd, ps, a, b, e', o⟩ := d.ex
  refine PE.imp (pe_make (E := E0) b o hr hg a e' .nil pass0 ha hdb he hpl) fun σ H Q ⟨ρ, G, z, r, hf, q⟩ => ?_
  obtain ⟨ds, e1, hf⟩ := bind_some2 hf
  obtain ⟨zs, e2, rfl⟩ := map_some2 hf
  refine ⟨ρ, G, ds, r, e1, fun vs H1 G1 g1 z1 => ?_⟩
  intro y dy hy hdy hne
  show spI _ _ _ _ _ (.ref y :: (vs ++ [])) _ _ _
  rw [List.append_nil]
  have sub1 : Same H1 (upd (upd H1 dy (.own y)) y (.ins (w.cl c).addr dy [])) := fun b' u hb => by
    rw [upd_ne (ne_of_none hb hy), upd_ne (ne_of_none hb hdy)]
    exact hb
  refine ⟨G1, ds, y, dy, vs, rfl, upd_same, g1.sub.free hy, g1.sub.trans sub1, z1, hn ρ ds e1, ?_⟩
  rw [e2]
  intro H' G' dx' ws g' h1 h2 h3
  refine ⟨rfl, q y _ H' G' ⟨fun b' u hb => ?_, g1.gg.trans g'.gg, g'.sub, fun b' hb => ?_⟩ (g1.hh.free hy) h2 h1 ⟨dx', ws, rfl, h3⟩⟩
  · refine g'.hh _ _ ?_
    have hb1 := g1.hh _ _ hb
    rw [dele_ne (ne_of_none hb1 hy)]
    exact sub1 _ _ hb1
  · rcases g'.new b' hb with z | z
    · exact g1.new b' z
    · right
      cases q2 : H b' with
      | none => rfl
      | some u =>
        have hb1 := g1.hh _ _ q2
        rw [dele_ne (ne_of_none hb1 hy), sub1 _ _ hb1] at z
        cases z
/-! ### observed objects handed to a def that gives a plain value -/
def scal : D → Option D
  | .int i => some (.int i)
  | .bl b => some (.bl b)
  | .str x => some (.str x)
  | .non => some .non
  | _ => none
theorem scal_eq {d z : D} (h : scal d = some z) : z = d ∧ ∀ {K cl} {G G' : Hp} {v : V}, Den K cl G d v → Den K cl G' d v := by
  cases d with
  | int i =>
    cases h
    exact ⟨rfl, fun q => by rw [den_int q]; exact mk_int⟩
  | bl i =>
    cases h
    exact ⟨rfl, fun q => by rw [den_bl q]; exact mk_bl⟩
  | str i =>
    cases h
    exact ⟨rfl, fun q => by rw [den_str q]; exact mk_str⟩
  | non =>
    cases h
    exact ⟨rfl, fun q => by rw [den_non q]; exact mk_non⟩
  | _ => cases h
theorem obs_stable {K : PySem.W.Frag} {cl : Nat → ClsT} {G H : Hp} {c : Nat} {ds : List D} {v : V} (s : Same G H) (h : Obs K cl G H (.ins c ds) v) : ∃ Gc, Same G Gc ∧ Same Gc H ∧ Den K cl Gc (.ins c ds) v := by
  obtain ⟨a, dx, vs, rfl, h1, h2⟩ := obs_ins h
  have sg : Same G (upd G a (.ins (cl c).addr dx ((cl c).names.zip vs))) := fun b u hb => by
    by_cases q : b = a
    · subst q
      have := s _ _ hb
      rw [h1] at this
      rw [upd_same]
      exact this
    · rw [upd_ne q]
      exact hb
  refine ⟨_, sg, fun b u hb => ?_, ?_⟩
  · by_cases q : b = a
    · subst q
      rw [upd_same] at hb
      rw [← hb]
      exact h1
    · rw [upd_ne q] at hb
      exact s _ _ hb
  · simp only [Den]
    exact ⟨a, dx, vs, rfl, upd_same, h2.mono sg⟩
def eProp (c : Nat) (F : List D → Ret) (f : Ef) : Ef := fun ρ => (f ρ).bind fun d => match d with
  | .ins c' ds => if c' = c then (toD (F [.ins c ds])).bind scal else none
  | _ => none
theorem ve_prop {F : List D → Ret} (d : PrD X.prog X.w X.K X.mg X.base w.cl k c fn F) (kc : ClsOk X.K (w.cl c) names) (hr : Room (k + 1) X.A) (he : VO w X e f) (hb : attributeBase e fn X.env (eval e X.env) = eval e X.env := by rfl) : VE w X (.Attribute e fn pos) (eProp c F f) := by
  obtain ⟨pp, gg, fd, ps, a, b, o⟩ := d.ex
  refine PE.imp (pe_prop (E := E0) he kc.cls a o hr b .nil pass0 hb) fun σ H Q ⟨ρ, G, z, r, hf, q⟩ => ?_
  obtain ⟨d, e1, hf⟩ := bind_some2 hf
  split at hf
  · rename_i c' ds
    split at hf
    · rename_i hc
      subst hc
      obtain ⟨y, e2, e3⟩ := bind_some2 hf
      obtain ⟨rfl, e4⟩ := scal_eq e3
      refine seqO r e1 fun v H1 G1 g1 r1 z1 => ?_
      obtain ⟨a', dx, vs, rfl, h1, h2⟩ := obs_ins z1
      obtain ⟨Gc, s1, s2, z2⟩ := obs_stable g1.sub z1
      refine ⟨a', dx, _, rfl, h1, Gc, [.ins c' ds], s2, Dens.cons z2 Dens.nil, rfl, retP_of e2 fun u H' G' g' zz => ?_⟩
      exact q u H' G1 (g1.trans ⟨g'.hh, Same.refl _, g1.sub.trans g'.hh, fun b hb => .inl hb⟩) (e4 zz)
    · cases hf
  · cases hf
def eMeth (c : Nat) (F : List D → Ret) (f : Ef) (fs : Af) : Ef := fun ρ => match f ρ with
  | some (.ins c' ds) => if c' = c then (fs ρ).bind fun zs => toD (F (.ins c ds :: zs)) else none
  | _ => none
theorem ve_meth {pl : Sem Bool} {F : List D → Ret} (d : MtD X.prog X.w X.K X.mg X.base w.cl k c m np F) (kc : ClsOk X.K (w.cl c) names) (hm : m ∉ names) (hr : Room k X.A) (ho : VE w X o f) (ha : VA w X (e :: es) fs) (hn : ALen fs (np - 1)) (hp : 0 < np)
    (hst : starEach (e :: es) X.env = (false, eval e X.env) :: starEach es X.env := by rfl) (hpl : (backTo pos (starEach es X.env)).any (·.1) = false := by rfl)
    (ht : eval (.Call (.Attribute o m apos) (e :: es) [] pos) X.env = (do
      let ov ← eval o X.env
      standAt apos.atName
      let (f, first) ← holding [ov] (getMethod ov m pl)
      callWith pos f first (backTo pos (starEach (e :: es) X.env)) (backToKw pos (keywordEach [] X.env))) := by rfl) :
    VE w X (.Call (.Attribute o m apos) (e :: es) [] pos) (eMeth c F f fs) := by
  obtain ⟨fa, fd, ps, a, b, ok⟩ := d.ex
  refine PE.imp (pe_meth (E := E0) ho kc.cls a ok hr b .nil pass0 ha hst hpl ht) fun σ H Q ⟨ρ, G, z, r, hf, q⟩ => ?_
  unfold eMeth at hf
  split at hf
  · rename_i c' ds e1
    split at hf
    · rename_i hc
      subst hc
      obtain ⟨zs, e2, e3⟩ := bind_some2 hf
      refine seqE r e1 fun v H1 G1 g1 r1 z1 => ?_
      obtain ⟨a', dx, vs, rfl, h1, h2⟩ := den_ins z1
      refine ⟨a', dx, _, rfl, g1.sub _ _ h1, by rw [kc.nm]; exact zip_none hm, ρ, G1, zs, r1, e2, fun us H2 G2 g2 z2 => ?_⟩
      show spF _ _ _ _ (.ref a' :: (us ++ [])) _ _ _
      rw [List.append_nil]
      refine ⟨G2, .ins c' ds :: zs, g2.sub, Dens.cons (z1.mono g2.gg) z2, ?_, retP_of e3 fun v H' G' g' z' => q v H' G' (g1.trans (g2.trans g')) z'⟩
      rw [List.length_cons, hn ρ zs e2]
      omega
    · cases hf
  · cases hf
theorem ve_meth0 {pl : Sem Bool} {F : List D → Ret} (d : MtD X.prog X.w X.K X.mg X.base w.cl k c m 1 F) (kc : ClsOk X.K (w.cl c) names) (hm : m ∉ names) (hr : Room k X.A) (ho : VE w X o f)
    (ht : eval (.Call (.Attribute o m apos) [] [] pos) X.env = (do
      let ov ← eval o X.env
      standAt apos.atName
      let (f, first) ← holding [ov] (getMethod ov m pl)
      callWith pos f first (backTo pos (starEach [] X.env)) (backToKw pos (keywordEach [] X.env))) := by rfl) :
    VE w X (.Call (.Attribute o m apos) [] [] pos) (eMeth c F f aNil) := by
  obtain ⟨fa, fd, ps, a, b, ok⟩ := d.ex
  refine PE.imp (pe_meth0 (E := E0) ho kc.cls a ok hr b .nil pass0 ht) fun σ H Q ⟨ρ, G, z, r, hf, q⟩ => ?_
  unfold eMeth at hf
  split at hf
  · rename_i c' ds e1
    split at hf
    · rename_i hc
      subst hc
      obtain ⟨zs, e2, e3⟩ := bind_some2 hf
      cases e2
      refine seqE r e1 fun v H1 G1 g1 r1 z1 => ?_
      obtain ⟨a', dx, vs, rfl, h1, h2⟩ := den_ins z1
      refine ⟨a', dx, _, rfl, g1.sub _ _ h1, by rw [kc.nm]; exact zip_none hm, ?_⟩
      show spF _ _ _ _ (.ref a' :: ([] ++ [])) _ _ E0
      exact ⟨G1, [.ins c' ds], g1.sub, Dens.cons z1 Dens.nil, rfl, retP_of e3 fun v H' G' g' z' => q v H' G' (g1.trans g') z'⟩
    · cases hf
  · cases hf
/-! ### len(o) -/
theorem call_lenO {C fa : Addr} {fd : FuncData} {ps : List Str} {sp : Sp} (hm : Meth X.K C "__len__" fa) (F : FnOk X.prog X.w X.K X.mg X.base CX0 k fa fd ps sp) (hr : Room (k + 1) X.A) (hb : Binds X.K fd ps []) :
    CallR X (.builtin "len") (fun xs H Q => ∃ a dx fs, xs = [.ref a] ∧ H a = some (.ins C dx fs) ∧ sp [.ref a] H (fun v H' => ∃ n, v = .int n ∧ 0 ≤ n ∧ n < 2 ^ 63 ∧ Q (.int n) H') E0) := by
  intro pins s σ H xs us Q I r h
  obtain ⟨a, dx, fs, rfl, ea, hsp⟩ := h
  rw [Vals.ref1 r]
  obtain ⟨mA, J, _⟩ := ins_get I.hok ea
  obtain ⟨od, J, _⟩ := J.look
  obtain ⟨mF, hF⟩ := I.fr
  refine PySem.W.len_K hF I.ok.mod.kin J hm.at_ hm.fn ?_
  have hl := F.len _ _ _ _ hsp
  have e0 : Env0 X.prog X.w X.K X.mg X.base X.A.in1 X.stack s H := I.env0.in1
  refine wpAny_call (codeAny_mono (F.run X.A.in1 X.stack s H ⟨[.ref a], []⟩ [.ref a] [.ref a] _ E0 hr.in1 e0 (by
    have := hb s [.ref a] I.kIn (by simpa using hl)
    simpa using this) (.cons rfl .nil) hsp) fun r s' hq => ?_)
  cases r with
  | error e => exact hq.elim
  | ok fl =>
    cases fl with
    | ret u =>
      obtain ⟨v, H', I', rv, n, rfl, h0, h1, q⟩ := I.after hq
      obtain ⟨t, rfl⟩ := rv
      exact ⟨⟨h0, h1⟩, ⟨.int n, H', I'.tok _, ⟨_, rfl⟩, q⟩⟩
    | next => exact False.elim hq
    | brk => exact False.elim hq
    | cont => exact False.elim hq
def oLenO (c : Nat) (F : List D → Ret) : List D → Option D
  | [.ins c' ds] => if c' = c then (toD (F [.ins c ds])).bind fun z => match z with
    | .int n => if 0 ≤ n ∧ n < 9223372036854775808 then some (.int n) else none
    | _ => none
    else none
  | _ => none
theorem ve_lenO {F : List D → Ret} (d : MtD X.prog X.w X.K X.mg X.base w.cl k c "__len__" 1 F) (hr : Room (k + 1) X.A) (hg : Gl X "len") (hmg : X.mg "len" = none) (ha : VO w X e f)
    (he : starEach [e] X.env = (false, eval e X.env) :: starEach [] X.env := by rfl) (hpl : (backTo pos (starEach [] X.env)).any (·.1) = false := by rfl) : VE w X (.Call (.Name "len" p) [e] [] pos) (eArgs (oLenO c F) (aCons f aNil)) := by
  obtain ⟨fa, fd, ps, a, b, ok⟩ := d.ex
  refine PE.imp (pe_callB (call_lenO a ok hr b) hg hmg (by decide +kernel) (vo_cons ha vo_nil he) (by decide) (by decide) he hpl) fun σ H Q ⟨ρ, G, z, r, hf, q⟩ => ?_
  unfold eArgs at hf
  obtain ⟨ds, e1, hf⟩ := bind_some2 hf
  refine ⟨ρ, G, ds, r, e1, fun vs H1 G1 g1 z1 => ?_⟩
  unfold oLenO at hf
  split at hf
  · rename_i c' zs
    split at hf
    · rename_i hc
      subst hc
      obtain ⟨y, e2, e3⟩ := bind_some2 hf
      split at e3
      · rename_i n
        split at e3
        · rename_i hn
          cases e3
          obtain ⟨v, rfl, h1⟩ := obsl1 z1
          obtain ⟨a', dx, vs, rfl, h2, h3⟩ := obs_ins h1
          obtain ⟨Gc, s1, s2, z2⟩ := obs_stable g1.sub h1
          refine ⟨a', dx, _, rfl, h2, Gc, [.ins c' zs], s2, Dens.cons z2 Dens.nil, rfl, retP_of e2 fun u H' G' g' zz => ?_⟩
          exact ⟨n, den_int zz, hn.1, hn.2, q _ H' G1 (g1.trans ⟨g'.hh, Same.refl _, g1.sub.trans g'.hh, fun b hb => .inl hb⟩) mk_int⟩
        · cases e3
      · cases e3
    · cases hf
  · cases hf
end
end Fw

/-! Fw9: max of ints with a default. -/
namespace Fw
open PySem PySem.Spec PyProof.Rows L2
section
variable {prog : Program} {w : World} {A : Around} {R : Result → Shared → Prop} {E : Value → Shared → Prop} {I : Addr} {fp wr : List Addr} {n : Nat} {P : Nat → Value → Prop} {St : Nat → Heap → Prop} {kw : List (Str × Value)} {s : Shared}
theorem mname : (toString "max" ++ toString ".loop" : String) = "max.loop" := by decide
theorem maxLoopK (W : Walks prog w A.in1 I fp wr n P St) (bt : Nat → Nat → Bool) (hcmp : CmpOf prog w A.in1 .Gt P bt) (S : Addr) (hSf : S ∉ fp) :
    ∀ (k j : Nat) (s : Shared) (vb : Value) (c : Nat), n - (j + 1) = k → j + 1 ≤ n → St (j + 1) s.heap → P (argBest bt j) vb →
    s.heap.get? S = some { cls := .type "list", dict := none, data := .seq #[vb, vb] c, slots := #[] } →
    (∀ v h' tk, P (argBest bt (n - 1)) v → (∀ b o, b ∉ wr → b ≠ S → s.heap.get? b = some o → h'.get? b = some o) → R (.ok (.ret v)) { s with heap := h', toks := tk }) →
    codeAny (model prog w) A (.builtin "max.loop" ⟨[.ref I, .none, .ref S], kw⟩) R s := by
  have nw : S ∉ wr := fun h => hSf (W.sub _ h)
  intro k
  induction k with
  | zero =>
    intro j s vb c hk hj hst hPb hS hR
    have hin : j + 1 = n := by omega
    refine codeAny_builtin PySem.F.entry_max_loop ?_
    rw [Around.under_plainId PySem.F.plain_max_loop _]
    refine wpAny_bind (m := seqItems? (.ref S)) (wpAny_seqItems hS rfl ?_)
    refine wpAny_bind (m := tryCatch (pyNext (.ref I)) _) (wpAny_tryCatch (W.done s _ _ (hin ▸ hst) fun h' tk hk' => ?_))
    have hS' := hk' S _ nw hS
    refine wpAny_bind (m := updateSeq S (fun _ => #[])) ?_
    refine wpAny_updateSeq hS' rfl (wpAny_bind (wpAny_letGo (wpAny_pure ?_)))
    exact hR vb _ tk (by rw [← hin]; exact hPb) fun b o hbw hbS e => (Heap.get?_update_other _ _ (Ne.symm hbS)).trans (hk' b o hbw e)
  | succ k ih =>
    intro j s vb c hk hj hst hPb hS hR
    have hlt : j + 1 < n := by omega
    refine codeAny_builtin PySem.F.entry_max_loop ?_
    rw [Around.under_plainId PySem.F.plain_max_loop _]
    refine wpAny_bind (m := seqItems? (.ref S)) (wpAny_seqItems hS rfl ?_)
    refine wpAny_bind (m := tryCatch (pyNext (.ref I)) _) (wpAny_tryCatch (W.item (j + 1) s _ _ hlt hst fun v h' tk hP hst' hk' => ?_))
    have hS' := hk' S _ nw hS
    refine wpAny_bind (m := tryCatch (holding [v, v] (richCompare .Gt v vb >>= _)) _) (wpAny_tryCatch (wpAny_holding (wpAny_bind (hcmp (j + 1) (argBest bt j) v vb _ _ _ hP hPb ?_))))
    refine wpAny_bind (wpAny_holding (wpAny_truthy_bool ?_))
    refine wpAny_bind (wpAny_letGo (wpAny_pure ?_))
    cases hb : bt (j + 1) (argBest bt j) with
    | true =>
      simp only [if_true]
      refine wpAny_bind (wpAny_updateSeq hS' rfl (wpAny_bind (wpAny_letGo ?_)))
      rw [mname]
      refine wpAny_pure ⟨plainId_quiet PySem.F.plain_max_loop _, ih (j + 1) _ v _ (by omega) hlt (W.frame _ _ _ hst' fun b hbf o e => ?_) (by simp only [argBest, hb, if_true]; exact hP) (Heap.get?_update_self _ hS' rfl)
        fun v' h'' tk'' hP' hk'' => ?_⟩
      · exact (Heap.get?_update_other _ _ (fun h : S = b => hSf (by rw [h]; exact hbf))).trans e
      · exact hR v' h'' tk'' hP' fun b o hbw hbS e => hk'' b o hbw hbS ((Heap.get?_update_other _ _ (Ne.symm hbS)).trans (hk' b o hbw e))
    | false =>
      simp only [Bool.false_eq_true, if_false]
      refine wpAny_bind (wpAny_letGo ?_)
      rw [mname]
      refine wpAny_pure ⟨plainId_quiet PySem.F.plain_max_loop _, ih (j + 1) _ vb c (by omega) hlt hst' (by simp only [argBest, hb, Bool.false_eq_true, if_false]; exact hPb) hS' fun v' h'' tk'' hP' hk'' => ?_⟩
      exact hR v' h'' tk'' hP' fun b o hbw hbS e => hk'' b o hbw hbS (hk' b o hbw e)
theorem maxFirstK (W : Walks prog w A.in1 I fp wr n P St) (bt : Nat → Nat → Bool) (hcmp : CmpOf prog w A.in1 .Gt P bt) (S : Addr) (hSf : S ∉ fp) (hn : 0 < n) {c : Nat} (hst : St 0 s.heap)
    (hS : s.heap.get? S = some { cls := .type "list", dict := none, data := .seq #[] c, slots := #[] })
    (hR : ∀ v h' tk, P (argBest bt (n - 1)) v → (∀ b o, b ∉ wr → b ≠ S → s.heap.get? b = some o → h'.get? b = some o) → R (.ok (.ret v)) { s with heap := h', toks := tk }) :
    codeAny (model prog w) A (.builtin "max.loop" ⟨[.ref I, .none, .ref S], kw⟩) R s := by
  have nw : S ∉ wr := fun h => hSf (W.sub _ h)
  refine codeAny_builtin PySem.F.entry_max_loop ?_
  rw [Around.under_plainId PySem.F.plain_max_loop _]
  refine wpAny_bind (m := seqItems? (.ref S)) (wpAny_seqItems hS rfl ?_)
  refine wpAny_bind (m := tryCatch (pyNext (.ref I)) _) (wpAny_tryCatch (W.item 0 s _ _ hn hst fun v h' tk hP hst' hk' => ?_))
  have hS' := hk' S _ nw hS
  refine wpAny_bind (m := updateSeq S (fun _ => #[v, v])) ?_
  refine wpAny_updateSeq hS' rfl ?_
  rw [mname]
  refine wpAny_pure ⟨plainId_quiet PySem.F.plain_max_loop _, maxLoopK W bt hcmp S hSf _ 0 _ v _ rfl hn (W.frame _ _ _ hst' fun b hbf o e => ?_) hP (Heap.get?_update_self _ hS' rfl) fun v' h'' tk'' hP' hk'' => ?_⟩
  · exact (Heap.get?_update_other _ _ (fun h : S = b => hSf (by rw [h]; exact hbf))).trans e
  · exact hR v' h'' tk'' hP' fun b o hbw hbS e => hk'' b o hbw hbS ((Heap.get?_update_other _ _ (Ne.symm hbS)).trans (hk' b o hbw e))
theorem maxNoneK (W : Walks prog w A.in1 I fp wr 0 P St) (S : Addr) (hSf : S ∉ fp) {c : Nat} {d : Value} (hst : St 0 s.heap)
    (hS : s.heap.get? S = some { cls := .type "list", dict := none, data := .seq #[] c, slots := #[] })
    (hR : ∀ h' tk, (∀ b o, b ∉ wr → s.heap.get? b = some o → h'.get? b = some o) → R (.ok (.ret d)) { s with heap := h', toks := tk }) :
    codeAny (model prog w) A (.builtin "max.loop" ⟨[.ref I, .none, .ref S], [(Str.ofString "default", d)]⟩) R s := by
  refine codeAny_builtin PySem.F.entry_max_loop ?_
  rw [Around.under_plainId PySem.F.plain_max_loop _]
  refine wpAny_bind (m := seqItems? (.ref S)) (wpAny_seqItems hS rfl ?_)
  refine wpAny_bind (m := tryCatch (pyNext (.ref I)) _) (wpAny_tryCatch (W.done s _ _ hst fun h' tk hk' => ?_))
  exact wpAny_bind (wpAny_rule (wpAny_pure (hR h' tk hk')))
theorem call_treeK {id : String} {b : Builtin} {args : List Value} {kw : List (Str × Value)} {Q : Value → Shared → Prop} (hk : builtinKind id = none) (hp : plainId id = true)
    (hb : entryFor table id = some b) (ha : argsOk id ⟨args, kw⟩)
    (hc : wpAny (model prog w) A.in1 (b ⟨args, kw⟩) (fun fin s' => match fin with
      | .done f => (match (Except.ok f : Result) with | .ok (.ret v) => Q v s' | .ok _ => False | .error e => E e s')
      | .again c' => c'.quiet = true ∧ codeAny (model prog w) A c' (fun r s' => match r with | .ok (.ret v) => Q v s' | .ok _ => False | .error e => E e s') s') E s) :
    wpAny (model prog w) A (call (.builtin id) args kw) Q E s := by
  refine wpAny_call (codeAny_call_builtin hp hb ?_)
  simp only [checkBuiltinCall, hk]
  cases hsig : Manifest.signature? id with
  | none => exact wpAny_pure hc
  | some sig =>
    simp only [argsOk, hsig] at ha
    have h2 : Bind.checkArgs id sig ⟨args, kw⟩ = pure () := ha
    show wpAny _ A.in1 (Bind.checkArgs id sig ⟨args, kw⟩) _ _ s
    rw [h2]
    exact wpAny_pure hc
theorem args_max_def (a d : Value) : argsOk "max" ⟨[a], [(Str.ofString "default", d)]⟩ := by unfold argsOk; kernel_rfl
theorem max_default {x d : Value} {Q : Value → Shared → Prop}
    (h : wpAny (model prog w) A.in1 (pyIter x) (fun it s₂ => ∃ I fp wr n P St bt, it = .ref I ∧ Walks prog w A.in1 I fp wr n P St ∧ St 0 s₂.heap ∧ (∀ b ∈ fp, b < s₂.heap.objs.size) ∧ CmpOf prog w A.in1 .Gt P bt ∧
      ∀ v h' tk, ((0 < n ∧ P (argBest bt (n - 1)) v) ∨ (n = 0 ∧ v = d)) → (∀ b o, b ∉ wr → s₂.heap.get? b = some o → h'.get? b = some o) → Q v { s₂ with heap := h', toks := tk }) E s) :
    wpAny (model prog w) A (call (.builtin "max") [x] [(Str.ofString "default", d)]) Q E s := by
  refine call_treeK PySem.F.kind_max PySem.F.plain_max PySem.F.entry_max (args_max_def _ _) ?_
  refine wpAny_bind (m := Builtin.Builtins.bindParams "max" ["key", "default"] 0 ⟨[], [(Str.ofString "default", d)]⟩) (wpAny_of_eq (show Builtin.Builtins.bindParams "max" ["key", "default"] 0 ⟨[], [(Str.ofString "default", d)]⟩ = pure [none, some d] from rfl) ?_)
  refine wpAny_bind (wpAny_pure ?_)
  refine wpAny_bind (wpAny_mono h (fun it s₂ h₂ => ?_) fun _ _ e => e)
  obtain ⟨I, fp, wr, n, P, St, bt, rfl, W, hst, hfp, hcmp, hQ⟩ := h₂
  refine wpAny_bind (wpAny_newObj_type ?_)
  have hSf : s₂.heap.objs.size ∉ fp := fun hm => Nat.lt_irrefl _ (hfp _ hm)
  rw [mname]
  have hst' := W.frame 0 _ (s₂.heap.push { cls := .type "list", data := .seq ([] : List Value).toArray }) hst fun b _ o e => Heap.get?_push_of_some _ e
  cases n with
  | zero =>
    refine wpAny_pure ⟨plainId_quiet PySem.F.plain_max_loop _, maxNoneK W s₂.heap.objs.size hSf hst' (Heap.get?_push_size _ rfl) fun h' tk hk => ?_⟩
    exact hQ d h' tk (.inr ⟨rfl, rfl⟩) fun b o hbw e => hk b o hbw (Heap.get?_push_of_some _ e)
  | succ n =>
    refine wpAny_pure ⟨plainId_quiet PySem.F.plain_max_loop _, maxFirstK W bt hcmp s₂.heap.objs.size hSf (Nat.succ_pos n) hst' (Heap.get?_push_size _ rfl) fun v h' tk hP hk => ?_⟩
    exact hQ v h' tk (.inl ⟨Nat.succ_pos n, hP⟩) fun b o hbw e => hk b o hbw (Nat.ne_of_lt (Heap.lt_size e)) (Heap.get?_push_of_some _ e)
end
/-- the greatest of ints, or the default -/
def maxIx (ns : List Int) (d : Int) : Int := (maxI ns).getD d
theorem maxIx_nil (d : Int) : maxIx [] d = d := rfl
section
variable {X : Cx} {w : Wd} {e : Expr} {es : List Expr} {f g : Ef} {pos p kp : Pos}
theorem argMax (ns : List Int) (n : Nat) (hn : n < ns.length) : ns.getD (argBest (fun i j => decide (ns.getD i 0 > ns.getD j 0)) n) 0 ∈ ns ∧ ∀ j, j ≤ n → ns.getD j 0 ≤ ns.getD (argBest (fun i j => decide (ns.getD i 0 > ns.getD j 0)) n) 0 := by
  induction n with
  | zero =>
    refine ⟨?_, fun j hj => ?_⟩
    · show ns.getD 0 0 ∈ ns
      rw [List.getD_eq_getElem?_getD, List.getElem?_eq_getElem hn]
      exact List.getElem_mem hn
    · have : j = 0 := by omega
      subst this
      exact Int.le_refl _
  | succ n ih =>
    obtain ⟨h1, h2⟩ := ih (by omega)
    unfold argBest
    split
    · rename_i hb
      have hb := of_decide_eq_true hb
      refine ⟨?_, fun j hj => ?_⟩
      · rw [List.getD_eq_getElem?_getD, List.getElem?_eq_getElem hn]
        exact List.getElem_mem hn
      · by_cases q : j = n + 1
        · rw [q]
          exact Int.le_refl _
        · have := h2 j (by omega)
          omega
    · rename_i hb
      refine ⟨h1, fun j hj => ?_⟩
      by_cases q : j = n + 1
      · rw [q]
        simp at hb
        simpa using hb
      · exact h2 j (by omega)
theorem maxI_is {ns : List Int} {m : Int} (h1 : m ∈ ns) (h2 : ∀ y ∈ ns, y ≤ m) : maxI ns = some m := by
  cases e : maxI ns with
  | none =>
    cases ns with
    | nil => cases h1
    | cons _ _ => cases e
  | some k =>
    obtain ⟨k1, k2⟩ := maxI_spec e
    rw [Int.le_antisymm (h2 k k1) (k2 m h1)]
def IntAt (ns : List Int) : Nat → Value → Prop := fun i v => i < ns.length ∧ ∃ t, v = .int (ns.getD i 0) t
theorem intAt_of {ns : List Int} {its : List Value} (r : Vals (ns.map V.int) its) {i : Nat} {v : Value} (h : its[i]? = some v) : IntAt ns i v := by
  have hi := r.ints
  have hl := r.length
  rw [List.length_map] at hl
  have hlt := (List.getElem?_eq_some_iff.mp h).1
  have hx : (ns.map V.int)[i]? = some (.int (ns.getD i 0)) := by
    rw [List.getElem?_map, List.getD_eq_getElem?_getD, List.getElem?_eq_getElem (by omega)]
    rfl
  obtain ⟨u, h1, h2⟩ := r.get hx
  rw [h] at h1
  cases h1
  exact ⟨by omega, h2⟩
theorem cmp_intAt {prog : Program} {wd : World} {A : Around} (ns : List Int) : CmpOf prog wd A .Gt (IntAt ns) (fun i j => decide (ns.getD i 0 > ns.getD j 0)) :=
  CmpOf.ints_gt (fun i => ns.getD i 0) (fun i v h => h.2)
theorem walks_imp {prog : Program} {w : World} {A : Around} {I : Addr} {fp wr : List Addr} {n : Nat} {P P' : Nat → Value → Prop} {St : Nat → Heap → Prop} (W : Walks prog w A I fp wr n P St) (h : ∀ i v, P i v → P' i v) : Walks prog w A I fp wr n P' St where
  sub := W.sub
  frame := W.frame
  item := fun i s Q E hi st hQ => W.item i s Q E hi st fun v h' tk hp => hQ v h' tk (h i v hp)
  done := W.done
  self := W.self
/-- max(t, default=d) of a tuple or a list of ints -/
def rMaxD (K : PySem.W.Frag) (d : Int) : List V → List V → Hp → VK → Prop := fun vs zs H Q => ∃ (a : Addr) (ns : List Int), vs = [V.ref a] ∧ zs = [V.int d] ∧ (SqT K H a (ns.map V.int) ∨ SqL K H a (ns.map V.int)) ∧ Q (.int (maxIx ns d)) H
theorem maxIx_arg {ns : List Int} {n : Nat} (d : Int) (h : ns.length = n + 1) : maxIx ns d = ns.getD (argBest (fun i j => decide (ns.getD i 0 > ns.getD j 0)) n) 0 := by
  obtain ⟨h1, h2⟩ := argMax ns n (by omega)
  unfold maxIx
  rw [maxI_is h1 fun y hy => ?_]
  · rfl
  · obtain ⟨j, hj, rfl⟩ := List.mem_iff_getElem.mp hy
    have := h2 j (by omega)
    rw [List.getD_eq_getElem?_getD, List.getElem?_eq_getElem hj] at this
    exact this
theorem cr_maxD (hc : X.calm = true) (d : Int) : CallRK X (.builtin "max") [Str.ofString "default"] (rMaxD X.K d) := by
  intro pins s σ H xs zs us ws Q I r1 r2 h
  obtain ⟨a, ns, rfl, rfl, hs, q⟩ := h
  rw [Vals.ref1 r1]
  obtain ⟨dv, rfl, dt, rfl⟩ : ∃ dv, ws = [dv] ∧ ∃ t, dv = .int d t := by
    cases r2 with
    | cons r rr =>
      cases rr
      obtain ⟨t, rfl⟩ := r
      exact ⟨_, rfl, t, rfl⟩
  have hh : X.A.handled = none := I.ok.hd hc
  have fin : ∀ (n : Nat) (its : List Value) (h' : Heap) (tk : Nat) (s2 : Shared) (v : Value), Vals (ns.map V.int) its → its.length = n → (∀ b o, s.heap.get? b = some o → h'.get? b = some o) →
      ((0 < n ∧ IntAt ns (argBest (fun i j => decide (ns.getD i 0 > ns.getD j 0)) (n - 1)) v) ∨ (n = 0 ∧ v = .int d dt)) → EP X pins σ Q v { s with heap := h', toks := tk } := by
    intro n its h' tk s2 v rv hn hk hv
    have hl := rv.length
    rw [List.length_map] at hl
    rcases hv with ⟨h0, h1⟩ | ⟨h0, rfl⟩
    · obtain ⟨_, t, rfl⟩ := h1
      refine ⟨.int (maxIx ns d), H, I.kept hk, ?_, q⟩
      rw [maxIx_arg (n := n - 1) d (by omega)]
      exact ⟨t, rfl⟩
    · have : ns = [] := List.length_eq_zero_iff.mp (by omega)
      subst this
      exact ⟨.int d, H, I.kept hk, ⟨dt, rfl⟩, q⟩
  rcases hs with hs | hs
  · obtain ⟨its, rv, pt, hz⟩ := I.tuple hs
    have pt : s.heap.IsTuple a its.toArray := pt
    have hne : a ≠ s.heap.objs.size := fun e => by
      obtain ⟨o, h1, _⟩ := pt
      exact Nat.lt_irrefl _ (e ▸ Heap.lt_size h1)
    refine max_default (wpAny_pyIter_tuple pt ⟨_, _, _, _, _, _, _, rfl, walks_imp (Walks.tuple (A := X.A.in1) hh s.heap.objs.size a hne its.toArray) (fun i v hv => intAt_of rv (by simpa using hv)), ⟨⟨_, Heap.get?_push_size _ rfl, rfl, rfl⟩, pt.push _⟩, fun b hb => ?_, cmp_intAt ns, fun v h' tk hv hk => ?_⟩)
    · simp only [List.mem_cons, List.not_mem_nil, or_false] at hb
      rcases hb with e | e
      · rw [e]
        exact Heap.lt_size (Heap.get?_push_size _ rfl)
      · rw [e]
        obtain ⟨o, h1, _⟩ := pt
        exact Heap.lt_size (Heap.get?_push_of_some _ h1)
    · exact fin its.toArray.size its h' tk s v rv (by simp) (fun b o e => hk b o (fun hm => Nat.ne_of_lt (Heap.lt_size e) (List.mem_singleton.mp hm)) (Heap.get?_push_of_some _ e)) hv
  · obtain ⟨its, rv, pt, hz⟩ := I.list hs
    have pt : s.heap.IsList a its.toArray := pt.isList
    have hne : a ≠ s.heap.objs.size := fun e => by
      obtain ⟨o, h1, _⟩ := pt
      exact Nat.lt_irrefl _ (e ▸ Heap.lt_size h1)
    refine max_default (wpAny_pyIter_list pt ⟨_, _, _, _, _, _, _, rfl, walks_imp (Walks.list (A := X.A.in1) hh s.heap.objs.size a hne its.toArray) (fun i v hv => intAt_of rv (by simpa using hv)), ⟨⟨_, Heap.get?_push_size _ rfl, rfl, rfl⟩, pt.push _⟩, fun b hb => ?_, cmp_intAt ns, fun v h' tk hv hk => ?_⟩)
    · simp only [List.mem_cons, List.not_mem_nil, or_false] at hb
      rcases hb with e | e
      · rw [e]
        exact Heap.lt_size (Heap.get?_push_size _ rfl)
      · rw [e]
        obtain ⟨o, h1, _⟩ := pt
        exact Heap.lt_size (Heap.get?_push_of_some _ h1)
    · exact fin its.toArray.size its h' tk s v rv (by simp) (fun b o e => hk b o (fun hm => Nat.ne_of_lt (Heap.lt_size e) (List.mem_singleton.mp hm)) (Heap.get?_push_of_some _ e)) hv
def numsOfD : D → Option (List Int)
  | .tup ds => intsOf ds
  | .lst ds => intsOf ds
  | .fl ds => intsOf ds
  | _ => none
def oMaxD (k : Int) (d : D) : Option D := (numsOfD d).map fun ns => .int (maxIx ns k)
theorem ve_maxD {kp : Pos} {jj} {k : Int} (hc : X.calm = true) (hg : Gl X "max") (hm : X.mg "max" = none) (ha : VO w X e f) (he : starEach [e] X.env = (false, eval e X.env) :: starEach [] X.env := by rfl)
    (he2 : backTo pos (starEach [e] X.env) = (false, eval e X.env) :: backTo pos (starEach [] X.env) := by rfl) (hpl : (backTo pos (starEach [e] X.env)).any (·.1) = false := by rfl)
    (hall : (backToKw pos (keywordEach [⟨some "default", .Constant (.int k) jj p, kp⟩] X.env)).all (·.1.isSome) = true := by rfl) (hnone : (backToKw pos (keywordEach [⟨some "default", .Constant (.int k) jj p, kp⟩] X.env)).any (·.1.isNone) = false := by rfl)
    (hks : (backToKw pos (keywordEach [⟨some "default", .Constant (.int k) jj p, kp⟩] X.env)).filterMap (·.1) = [Str.ofString "default"] := by rfl) {p' : Pos} :
    VE w X (.Call (.Name "max" p') [e] [⟨some "default", .Constant (.int k) jj p, kp⟩] pos) (e1o (oMaxD k) f) := by
  refine PE.imp (pe_callBK (cr_maxD hc k) hg hm (by decide +kernel) (vo_cons ha vo_nil he) (pk_cons pe_int pk_nil) (by decide) (by decide) he2 hpl hall hnone hks) fun σ H Q ⟨ρ, G, z, r, hf, q⟩ => ?_
  obtain ⟨d, e1, hf⟩ := bind_some2 hf
  obtain ⟨ns, e2, rfl⟩ := map_some2 hf
  refine ⟨ρ, G, [d], r, by unfold aCons; rw [e1]; rfl, fun vs H1 G1 g1 z1 => ?_⟩
  obtain ⟨v, rfl, h1⟩ := obsl1 z1
  have done := q (.int (maxIx ns k)) H1 G1 g1 mk_int
  unfold numsOfD at e2
  split at e2
  · rename_i ds
    obtain ⟨a, vs, rfl, h2, h3⟩ := obs_tup h1
    rw [intsOf_some e2] at h3
    rw [dens_ints h3] at h2
    exact ⟨a, ns, rfl, rfl, .inl (same_seqT g1.sub h2.sq), done⟩
  · rename_i ds
    obtain ⟨a, rfl, h2⟩ := seqInts (ns := ns) g1.sub h1 (by show intsOf _ = _; exact e2)
    exact ⟨a, ns, rfl, rfl, .inr h2, done⟩
  · rename_i ds
    obtain ⟨a, rfl, h2⟩ := seqInts (ns := ns) g1.sub h1 (by show intsOf _ = _; exact e2)
    exact ⟨a, ns, rfl, rfl, .inr h2, done⟩
  · cases e2
end
end Fw

/-! FwA: what the defs of a class of the text are to have. -/
namespace Fw
open PySem PySem.Spec PyProof.Rows L2
structure AtI (K : PySem.W.Frag) (mg : Str → Option Value) (C : Addr) (x qual : Str) (st : Stmt) : Prop where
  ex : ∃ (f : Addr) (fd : FuncData), mg x = some (.ref C) ∧ Mk K C f ∧ Fun K "__init__" qual st f fd
structure AtP (K : PySem.W.Frag) (C : Addr) (fn qual : Str) (st : Stmt) : Prop where
  ex : ∃ (p g : Addr) (fd : FuncData), PropOf K C fn p g ∧ Fun K fn qual st g fd
structure AtM (K : PySem.W.Frag) (C : Addr) (m qual : Str) (st : Stmt) : Prop where
  ex : ∃ (f : Addr) (fd : FuncData), Meth K C m f ∧ Fun K m qual st f fd
section
variable {P : Program} {wd : World} {K : PySem.W.Frag} {mg : Str → Option Value} {base : Heap} {cl : Nat → ClsT} {x fn m qual : Str} {st : Stmt} {N ps : List Str} {k c : Nat}
theorem mk_of {F : Sf} (a : AtI K mg (cl c).addr x qual st) (S : FnScope N ps (defScope st)) (hp : 0 < ps.length) (hb : ∀ f fd, Fun K "__init__" qual st f fd → Binds K fd ps [])
    (body : ∀ (f : Addr) (cdv : Value) (A : Around) (outer : List PySem.Env) (s : Shared) (H : Hp) (E : XK) (G0 H0 : Hp) (sf : Addr), Room k (A.deeper (envOfC qual (defScope st) s.heap.objs.size f cdv)) →
      VSs ⟨cl, G0, H0, sf⟩ (XX P wd K mg base N qual (defScope st) f cdv A outer s H E) (defBody st) F) : MkD P wd K mg base cl (k + 1) c x (ps.length - 1) (runI c N.length F) := by
  obtain ⟨f, fd, e, M, Fn⟩ := a.ex
  exact ⟨f, fd, ps, e, M, hb f fd Fn, init_ok Fn S hp fun cdv A outer s H E G0 H0 sf hr => body f cdv A outer s H E G0 H0 sf hr⟩
theorem prop_of {F : Sf} (a : AtP K (cl c).addr fn qual st) (S : FnScope N ps (defScope st)) (hp : ps.length = 1) (hb : ∀ f fd, Fun K fn qual st f fd → Binds K fd ps [])
    (body : ∀ (f : Addr) (cdv : Value) (A : Around) (outer : List PySem.Env) (s : Shared) (H : Hp) (E : XK) (G0 H0 : Hp) (sf : Addr), Room k (A.deeper (envOfC qual (defScope st) s.heap.objs.size f cdv)) →
      VSs ⟨cl, G0, H0, sf⟩ (XX P wd K mg base N qual (defScope st) f cdv A outer s H E) (defBody st) F) : PrD P wd K mg base cl (k + 1) c fn (runF N.length F) := by
  obtain ⟨p, g, fd, e, Fn⟩ := a.ex
  have z := fn_ok (P := P) (wd := wd) (mg := mg) (base := base) (cl := cl) Fn S fun cdv A outer s H E G0 H0 sf hr => body g cdv A outer s H E G0 H0 sf hr
  rw [hp] at z
  exact ⟨p, g, fd, ps, e, hb g fd Fn, z⟩
theorem meth_of {F : Sf} (a : AtM K (cl c).addr m qual st) (S : FnScope N ps (defScope st)) (hb : ∀ f fd, Fun K m qual st f fd → Binds K fd ps [])
    (body : ∀ (f : Addr) (cdv : Value) (A : Around) (outer : List PySem.Env) (s : Shared) (H : Hp) (E : XK) (G0 H0 : Hp) (sf : Addr), Room k (A.deeper (envOfC qual (defScope st) s.heap.objs.size f cdv)) →
      VSs ⟨cl, G0, H0, sf⟩ (XX P wd K mg base N qual (defScope st) f cdv A outer s H E) (defBody st) F) : MtD P wd K mg base cl (k + 1) c m ps.length (runF N.length F) := by
  obtain ⟨f, fd, M, Fn⟩ := a.ex
  exact ⟨f, fd, ps, M, hb f fd Fn, fn_ok Fn S fun cdv A outer s H E G0 H0 sf hr => body f cdv A outer s H E G0 H0 sf hr⟩
end
end Fw

/-! FwB: a law's promise. -/
namespace Fw
open PySem PySem.Spec PyProof.Rows L2
def spLaw (K : PySem.W.Frag) : Sp := fun vs H Q _ => ∃ (a : Addr) (ns : List Int), vs = [.ref a] ∧ SqL K H a (ns.map V.int) ∧ ns.length ≤ 63 ∧ ∀ H', Q (.bl true) H'
theorem dens_of_ints {K : PySem.W.Frag} {cl : Nat → ClsT} {H : Hp} : ∀ ns : List Int, Dens K cl H (ns.map D.int) (ns.map V.int)
  | [] => Dens.nil
  | _ :: r => Dens.cons mk_int (dens_of_ints r)
theorem law_spec {P : Program} {wd : World} {K : PySem.W.Frag} {mg : Str → Option Value} {base : Heap} {cl : Nat → ClsT} {k : Nat} {f : Addr} {fd : FuncData} {ps : List Str} {F : List D → Ret} (hF : ∀ ns : List Int, ns.length ≤ 63 → F [.fl (ns.map D.int)] = .ok (.bl true))
    (o : FnOk P wd K mg base CX0 k f fd ps (spF K cl 1 F)) : FnOk P wd K mg base CX0 k f fd ps (spLaw K) := by
  have key : ∀ vs H Q E, spLaw K vs H Q E → spF K cl 1 F vs H Q E := fun vs H Q E ⟨a, ns, e, hs, hl, q⟩ => by
    subst e
    refine ⟨H, [.fl (ns.map D.int)], Same.refl _, Dens.cons ?_ Dens.nil, rfl, ?_⟩
    · simp only [Den]
      exact ⟨a, _, rfl, hs, dens_of_ints ns⟩
    · rw [hF ns hl]
      intro v H' G' g z
      rw [den_bl z]
      exact q H'
  exact ⟨fun vs H Q E h => o.len vs H Q E (key _ _ _ _ h), fun A outer s H args us vs Q E hr he hb hv h => o.run A outer s H args us vs Q E hr he hb hv (key _ _ _ _ h)⟩
end Fw

/-! FwC: slices of any kind; the mirrors' values by simp; the shared defs of the laws. -/
namespace Fw
open PySem PySem.Spec PyProof.Rows L2
section
variable {X : Cx} {w : Wd} {e ea : Expr} {f : Ef} {pos : Pos}
theorem PE.or {t t' : TE} (h : PE X e t) (h' : PE X e t') : PE X e (fun σ H R => t σ H R ∨ t' σ H R) := ⟨fun pins s σ H R I q => q.elim (h.run pins s σ H R I) (h'.run pins s σ H R I)⟩
def eSlA (f : Ef) (l h : Env → Option (Option Int)) : Ef := fun ρ => match f ρ with
  | some (.lst ds) => fL (aSl f l h) ρ
  | some (.fl ds) => fL (aSl f l h) ρ
  | _ => eSl oSl f l h ρ
theorem ve_slA {lo hi : Option Expr} {pl ph : Env → Option (Option Int)} {p2 : Pos} (ha : VO w X ea f) (hl : VP w X lo pl) (hh : VP w X hi ph) : VE w X (.Subscript ea (.Slice lo hi none p2) pos) (eSlA f pl ph) :=
  PE.imp (PE.or (ofF (vf_sl ha hl hh)) (ve_sl ha hl hh)) fun σ H Q ⟨ρ, G, z, r, hf, q⟩ => by
    unfold eSlA at hf
    split at hf
    · exact .inl ⟨ρ, G, z, r, hf, q⟩
    · exact .inl ⟨ρ, G, z, r, hf, q⟩
    · exact .inr ⟨ρ, G, z, r, hf, q⟩
end
/-! ### values of mirrors by simp -/
def Cell.shd : Cell → Option D
  | .sh d => some d
  | _ => none
def Cell.obd : Cell → Option D
  | .own o => some o.toD
  | .sh d => some d
  | _ => none
@[simp] theorem shd_sh {d} : Cell.shd (.sh d) = some d := rfl
@[simp] theorem obd_sh {d} : Cell.obd (.sh d) = some d := rfl
@[simp] theorem obd_own {d} : Cell.obd (.own d) = some d.toD := rfl
@[simp] theorem toD_lst {d} : Ow.toD (.lst d) = .lst d := rfl
@[simp] theorem toD_obj {c d} : Ow.toD (.obj c d) = .ins c d := rfl
@[simp] theorem toD_dic {c d} : Ow.toD (.dic c d) = .dic c d := rfl
@[simp] theorem cellAt_z {c : Cell} {r : Env} : cellAt (c :: r) 0 = c := rfl
@[simp] theorem cellAt_s {c : Cell} {r : Env} {i : Nat} : cellAt (c :: r) (i + 1) = cellAt r i := rfl
@[simp] theorem eVar_x {i ρ} : eVar i ρ = (cellAt ρ i).shd := by
  unfold eVar
  cases cellAt ρ i <;> rfl
@[simp] theorem eOwn_x {i ρ} : eOwn i ρ = (cellAt ρ i).obd := by
  unfold eOwn
  cases cellAt ρ i <;> rfl
@[simp] theorem eC_x {d ρ} : eC d ρ = some d := rfl
@[simp] theorem eBin_x {o f g ρ} : eBin o f g ρ = (f ρ).bind fun a => (g ρ).bind fun b => o a b := rfl
@[simp] theorem aBin_x {o f g ρ} : aBin o f g ρ = (f ρ).bind fun a => (g ρ).bind fun b => o a b := rfl
@[simp] theorem e1o_x {o f ρ} : e1o o f ρ = (f ρ).bind o := rfl
@[simp] theorem aNil_x {ρ} : aNil ρ = some [] := rfl
@[simp] theorem aCons_x {f g ρ} : aCons f g ρ = (f ρ).bind fun d => (g ρ).map fun ds => d :: ds := rfl
@[simp] theorem eArgs_x {o f ρ} : eArgs o f ρ = (f ρ).bind o := rfl
@[simp] theorem aArgs_x {o f ρ} : aArgs o f ρ = (f ρ).bind o := rfl
@[simp] theorem eCall_x {F f ρ} : eCall F f ρ = (f ρ).bind fun ds => toD (F ds) := rfl
@[simp] theorem aCall_x {F f ρ} : aCall F f ρ = (f ρ).bind fun ds => toFr (F ds) := rfl
@[simp] theorem fL_x {f ρ} : fL f ρ = (f ρ).map D.lst := rfl
@[simp] theorem fW_x {f ρ} : fW f ρ = (f ρ).map Ow.toD := rfl
@[simp] theorem wL_x {f ρ} : wL f ρ = (f ρ).map Ow.lst := rfl
@[simp] theorem pNo_x {ρ} : pNo ρ = some none := rfl
@[simp] theorem pSome_x {f ρ} : pSome f ρ = (asI (f ρ)).map some := rfl
@[simp] theorem asI_x {i} : asI (some (.int i)) = some i := rfl
@[simp] theorem asB_x {b} : asB (some (.bl b)) = some b := rfl
@[simp] theorem tB1_x {f ρ} : tB1 f ρ = asB (f ρ) := rfl
@[simp] theorem toD_ok {d} : Fw.toD (.ok d) = some d := rfl
@[simp] theorem toD_fr {d} : Fw.toD (.fr d) = some d.toD := rfl
@[simp] theorem toFr_fr {d} : Fw.toFr (.fr d) = some d := rfl
@[simp] theorem tNotF_x {f ρ} : tNotF f ρ = (f ρ).map fun b => !b := rfl
@[simp] theorem tYesF_x {ρ} : tYesF ρ = some true := rfl
@[simp] theorem tAndF_x {f g ρ} : tAndF f g ρ = (f ρ).bind fun b => if b = true then g ρ else some false := by
  unfold tAndF
  cases f ρ with
  | none => rfl
  | some b => cases b <;> rfl
@[simp] theorem tOrF_x {f g ρ} : tOrF f g ρ = (f ρ).bind fun b => if b = true then some true else g ρ := by
  unfold tOrF
  cases f ρ with
  | none => rfl
  | some b => cases b <;> rfl
def asBd : Option D → Option Bool := asB
@[simp] theorem asBd_x {b} : asBd (some (.bl b)) = some b := rfl
@[simp] theorem eAnd_x {f g ρ} : eAnd f g ρ = (asBd (f ρ)).bind fun b => if b = true then g ρ else some (.bl false) := by
  unfold eAnd
  cases f ρ with
  | none => rfl
  | some d => cases d with
    | bl b => cases b <;> rfl
    | _ => rfl
@[simp] theorem eOr_x {f g ρ} : eOr f g ρ = (asBd (f ρ)).bind fun b => if b = true then some (.bl true) else g ρ := by
  unfold eOr
  cases f ρ with
  | none => rfl
  | some d => cases d with
    | bl b => cases b <;> rfl
    | _ => rfl
@[simp] theorem eIf_x {t f g ρ} : eIf t f g ρ = (t ρ).bind fun b => if b = true then f ρ else g ρ := by
  unfold eIf
  cases t ρ with
  | none => rfl
  | some b => cases b <;> rfl
@[simp] theorem tChain_x {o o' f g h ρ} : tChainF o o' f g h ρ = (f ρ).bind fun a => (g ρ).bind fun b => (asBd (o a b)).bind fun r => if r = true then (h ρ).bind fun c => o' b c else some (.bl false) := by
  unfold tChainF
  congr 1
  funext a
  congr 1
  funext b
  cases o a b with
  | none => rfl
  | some d => cases d with
    | bl b => cases b <;> rfl
    | _ => rfl
@[simp] theorem oNot_x {b} : oNot (.bl b) = some (.bl (!b)) := rfl
@[simp] theorem eTup_x {f ρ} : eTup f ρ = (f ρ).bind fun ds => if ds.length ≤ 16777216 then some (.tup ds) else none := rfl
@[simp] theorem aLst_x {f ρ} : aLst f ρ = (f ρ).bind fun ds => if ds.length ≤ 16777216 then some ds else none := rfl
/-! operations -/
@[simp] theorem oAdd_int {i j} : oAdd (.int i) (.int j) = some (.int (i + j)) := rfl
@[simp] theorem oAdd_lst {i j} : oAdd (.lst i) (.lst j) = if i.length + j.length ≤ 16777216 then some (.lst (i ++ j)) else none := rfl
@[simp] theorem oAdd_tup {i j} : oAdd (.tup i) (.tup j) = if i.length + j.length ≤ 16777216 then some (.tup (i ++ j)) else none := rfl
@[simp] theorem oCatL_x {i j} : oCatL (.lst i) (.lst j) = if i.length + j.length ≤ 16777216 then some (i ++ j) else none := rfl
@[simp] theorem oSub_int {i j} : oSub (.int i) (.int j) = some (.int (i - j)) := rfl
theorem oMod_int {i j} : oMod (.int i) (.int j) = if 0 < j then some (.int (i % j)) else none := by
  unfold oMod oInt
  simp
theorem oFdiv_int {i j} : oFdiv (.int i) (.int j) = if 0 < j ∧ j < 1073741824 then some (.int (i / j)) else none := by
  unfold oFdiv oInt
  simp
@[simp] theorem oPow_int {i j} : oPow (.int i) (.int j) = if 0 ≤ j ∧ j ≤ 1000000 ∧ i.natAbs < 18446744073709551616 then some (.int (i ^ j.toNat)) else none := by
  unfold oPow oInt
  simp
theorem oMul_int {i j} : oMul (.int i) (.int j) = if mulC i j = true then some (.int (i * j)) else none := rfl
theorem mulC_a {i j : Int} (h : -18446744073709551616 < i ∧ i < 18446744073709551616) : mulC i j = true := decide_eq_true (.inl h)
theorem mulC_b {i j : Int} (h : -18446744073709551616 < j ∧ j < 18446744073709551616) : mulC i j = true := decide_eq_true (.inr h)
@[simp] theorem oMul_a {i j : Int} (h : -18446744073709551616 < i ∧ i < 18446744073709551616) : oMul (.int i) (.int j) = some (.int (i * j)) := by rw [oMul_int, if_pos (mulC_a h)]
@[simp] theorem oMul_b {i j : Int} (h : -18446744073709551616 < j ∧ j < 18446744073709551616) : oMul (.int i) (.int j) = some (.int (i * j)) := by rw [oMul_int, if_pos (mulC_b h)]
@[simp] theorem oMod_p {i j : Int} (h : 0 < j) : oMod (.int i) (.int j) = some (.int (i % j)) := by rw [oMod_int, if_pos h]
@[simp] theorem oFdiv_p {i j : Int} (h : 0 < j ∧ j < 1073741824) : oFdiv (.int i) (.int j) = some (.int (i / j)) := by rw [oFdiv_int, if_pos h]
@[simp] theorem oLt_int {i j} : oLt (.int i) (.int j) = some (.bl (decide (i < j))) := rfl
@[simp] theorem oLe_int {i j} : oLe (.int i) (.int j) = some (.bl (decide (i ≤ j))) := rfl
@[simp] theorem oGt_int {i j} : oGt (.int i) (.int j) = some (.bl (decide (j < i))) := rfl
@[simp] theorem oGe_int {i j} : oGe (.int i) (.int j) = some (.bl (decide (j ≤ i))) := rfl
@[simp] theorem oEq_int {i j} : oEq (.int i) (.int j) = some (.bl (decide (i = j))) := rfl
@[simp] theorem oNe_int {i j} : oNe (.int i) (.int j) = some (.bl (!decide (i = j))) := rfl
@[simp] theorem oEq_bl {i j} : oEq (.bl i) (.bl j) = some (.bl (decide (i = j))) := rfl
@[simp] theorem oNe_bl {i j} : oNe (.bl i) (.bl j) = some (.bl (!decide (i = j))) := rfl
@[simp] theorem oIsN_x {d} : oIsN d .non = some (.bl (isNonD d)) := rfl
@[simp] theorem oNotN_x {d} : oNotN d .non = some (.bl (!isNonD d)) := rfl
@[simp] theorem isNon_1 : isNonD .non = true := rfl
@[simp] theorem isNon_2 {i} : isNonD (.int i) = false := rfl
@[simp] theorem isNon_3 {i} : isNonD (.tup i) = false := rfl
@[simp] theorem isNon_4 {i} : isNonD (.lst i) = false := rfl
@[simp] theorem isNon_5 {i j} : isNonD (.ins i j) = false := rfl
@[simp] theorem isNon_6 {i} : isNonD (.bl i) = false := rfl
@[simp] theorem items_lst {d} : itemsOf (.lst d) = some d := rfl
@[simp] theorem items_fl {d} : itemsOf (.fl d) = some d := rfl
@[simp] theorem items_tup {d} : itemsOf (.tup d) = some d := rfl
@[simp] theorem seq_lst {d} : seqOf (.lst d) = some d := rfl
@[simp] theorem seq_fl {d} : seqOf (.fl d) = some d := rfl
@[simp] theorem oIx_lst {d i} : oIx (.lst d) (.int i) = ixD d i := rfl
@[simp] theorem oIx_fl {d i} : oIx (.fl d) (.int i) = ixD d i := rfl
@[simp] theorem oIx_tup {d i} : oIx (.tup d) (.int i) = ixD d i := rfl
theorem ixD_nat {d : List D} {i : Nat} : ixD d (i : Int) = d[i]? := by
  unfold ixD
  rw [if_pos (by omega)]
  rfl
@[simp] theorem ixD_zero {d : List D} : ixD d 0 = d[0]? := rfl
@[simp] theorem ixD_lit {d : List D} {i : Nat} : ixD d (no_index (OfNat.ofNat i : Int)) = d[i]? := ixD_nat (i := i)
theorem ixD_pos {d : List D} {i : Int} (h : 0 ≤ i) : ixD d i = d[i.toNat]? := if_pos h
@[simp] theorem oLen_lst {d} : oLen [.lst d] = some (.int d.length) := rfl
@[simp] theorem oLen_fl {d} : oLen [.fl d] = some (.int d.length) := rfl
@[simp] theorem oLen_tup {d} : oLen [.tup d] = some (.int d.length) := rfl
@[simp] theorem oToInt_int {i} : oToInt [.int i] = some (.int i) := rfl
@[simp] theorem oToInt_bl {i} : oToInt [.bl i] = some (.int (if i then 1 else 0)) := rfl
@[simp] theorem oMax2_x {i j} : oMax2 [.int i, .int j] = some (.int (max i j)) := rfl
@[simp] theorem oMin2_x {i j} : oMin2 [.int i, .int j] = some (.int (min i j)) := rfl
@[simp] theorem oList_x {d} : oList [d] = itemsOf d := rfl
@[simp] theorem oTuple_x {d} : oTuple [d] = (itemsOf d).map D.tup := rfl
@[simp] theorem oSl_tup {d a b} : oSl (.tup d) a b = some (.tup (cutD d a b)) := rfl
@[simp] theorem eSl_x {o f l h ρ} : eSl o f l h ρ = (f ρ).bind fun d => (l ρ).bind fun a => (h ρ).bind fun b => o d a b := rfl
def slD (d : D) (a b : Option Int) : Option D := match d with
  | .lst ds => some (.lst (cutD ds a b))
  | .fl ds => some (.lst (cutD ds a b))
  | d => oSl d a b
@[simp] theorem slD_lst {d a b} : slD (.lst d) a b = some (.lst (cutD d a b)) := rfl
@[simp] theorem slD_fl {d a b} : slD (.fl d) a b = some (.lst (cutD d a b)) := rfl
@[simp] theorem slD_tup {d a b} : slD (.tup d) a b = some (.tup (cutD d a b)) := rfl
@[simp] theorem eSlA_x {f l h ρ} : eSlA f l h ρ = (f ρ).bind fun d => (l ρ).bind fun a => (h ρ).bind fun b => slD d a b := by
  unfold eSlA
  split
  · rename_i ds e
    rw [fL_x]
    unfold aSl
    rw [e]
    dsimp only
    rw [Option.bind_some]
    cases l ρ with
    | none => rfl
    | some a => cases h ρ <;> rfl
  · rename_i ds e
    rw [fL_x]
    unfold aSl
    rw [e]
    dsimp only
    rw [Option.bind_some]
    cases l ρ with
    | none => rfl
    | some a => cases h ρ <;> rfl
  · rename_i h1 h2
    rw [eSl_x]
    cases e : f ρ with
    | none => rfl
    | some d =>
      rw [Option.bind_some, Option.bind_some]
      cases d with
      | lst ds => exact (h1 ds e).elim
      | fl ds => exact (h2 ds e).elim
      | _ => rfl
@[simp] theorem aSl_x {f l h ρ} : aSl f l h ρ = (f ρ).bind fun d => (seqOf d).bind fun ds => (l ρ).bind fun a => (h ρ).map fun b => cutD ds a b := by
  unfold aSl
  cases f ρ with
  | none => rfl
  | some d => cases d <;> rfl
@[simp] theorem oIsi_x {d b} : oIsi [d, .ty b] = ((tyName d).bind fun a => isTy a b).map D.bl := rfl
@[simp] theorem oIsi_t {d bs} : oIsi [d, .tup bs] = ((tyName d).bind fun a => (tysOf bs).bind fun bs => isAny a bs).map D.bl := rfl
@[simp] theorem tn1 {i} : tyName (.int i) = some "int" := rfl
@[simp] theorem tn2 {i} : tyName (.bl i) = some "bool" := rfl
@[simp] theorem tn3 {i} : tyName (.tup i) = some "tuple" := rfl
@[simp] theorem tn4 {i} : tyName (.lst i) = some "list" := rfl
@[simp] theorem tn5 {i} : tyName (.str i) = some "str" := rfl
@[simp] theorem tn6 : tyName .non = some "NoneType" := rfl
@[simp] theorem it1 : isTy "int" "int" = some true := by decide
@[simp] theorem it2 : isTy "int" "bool" = some false := by decide
@[simp] theorem it3 : isTy "int" "tuple" = some false := by decide
@[simp] theorem it4 : isTy "int" "list" = some false := by decide
@[simp] theorem it5 : isTy "int" "str" = some false := by decide
@[simp] theorem it6 : isTy "bool" "int" = some true := by decide
@[simp] theorem it7 : isTy "bool" "bool" = some true := by decide
@[simp] theorem it8 : isTy "tuple" "tuple" = some true := by decide
@[simp] theorem it9 : isTy "tuple" "list" = some false := by decide
@[simp] theorem it10 : isTy "tuple" "int" = some false := by decide
@[simp] theorem it11 : isTy "list" "list" = some true := by decide
@[simp] theorem it12 : isTy "list" "tuple" = some false := by decide
@[simp] theorem it13 : isTy "list" "int" = some false := by decide
@[simp] theorem it14 : isTy "str" "str" = some true := by decide
@[simp] theorem it15 : isTy "NoneType" "int" = some false := by decide
@[simp] theorem it16 : isTy "bool" "tuple" = some false := by decide
@[simp] theorem it17 : isTy "NoneType" "tuple" = some false := by decide
@[simp] theorem it18 : isTy "NoneType" "list" = some false := by decide
@[simp] theorem ia1 : isAny "int" ["list", "tuple"] = some false := by decide
@[simp] theorem ia2 : isAny "tuple" ["list", "tuple"] = some true := by decide
@[simp] theorem ia3 : isAny "list" ["list", "tuple"] = some true := by decide
@[simp] theorem ia4 : isAny "NoneType" ["list", "tuple"] = some false := by decide
@[simp] theorem ia5 : isAny "bool" ["list", "tuple"] = some false := by decide
@[simp] theorem ia6 : isAny "str" ["list", "tuple"] = some false := by decide
@[simp] theorem tys0 : tysOf [] = some [] := rfl
@[simp] theorem tys1 {b r} : tysOf (.ty b :: r) = (tysOf r).map fun l => b :: l := rfl
/-! statements -/
def Out.next : Out → Sf → Out
  | .nx ρ, F => F ρ
  | o, _ => o
@[simp] theorem next_nx {ρ F} : Out.next (.nx ρ) F = F ρ := rfl
@[simp] theorem next_bk {ρ F} : Out.next (.bk ρ) F = .bk ρ := rfl
@[simp] theorem next_ct {ρ F} : Out.next (.ct ρ) F = .ct ρ := rfl
@[simp] theorem next_rt {ρ F} : Out.next (.rt ρ) F = .rt ρ := rfl
@[simp] theorem next_rf {ρ F} : Out.next (.rf ρ) F = .rf ρ := rfl
@[simp] theorem next_stuck {F} : Out.next .stuck F = .stuck := rfl
@[simp] theorem sSeq_x {F G ρ} : sSeq F G ρ = (F ρ).next G := by
  unfold sSeq
  cases F ρ <;> rfl
@[simp] theorem next_ite {p : Prop} [Decidable p] {a b : Out} {F} : Out.next (if p then a else b) F = if p then a.next F else b.next F := by
  split <;> rfl
def opt {α : Type} (o : Option α) (f : α → Out) : Out := match o with
  | some a => f a
  | none => .stuck
@[simp] theorem opt_some {α : Type} {a : α} {f : α → Out} : opt (some a) f = f a := rfl
@[simp] theorem opt_ite {α : Type} {p : Prop} [Decidable p] {a b : Option α} {f : α → Out} : opt (if p then a else b) f = if p then opt a f else opt b f := by
  split <;> rfl
@[simp] theorem sNext_x {ρ} : sNext ρ = .nx ρ := rfl
@[simp] theorem sFrz_x {i F ρ} : sFrz i F ρ = F (frz i ρ) := rfl
@[simp] theorem sBreak_x {ρ} : sBreak ρ = .bk ρ := rfl
@[simp] theorem sCont_x {ρ} : sCont ρ = .ct ρ := rfl
@[simp] theorem sSet_x {i f ρ} : sSet i f ρ = opt (f ρ) fun d => .nx (ρ.set i (.sh d)) := by
  unfold sSet
  cases f ρ <;> rfl
@[simp] theorem sSetF_x {i f ρ} : sSetF i f ρ = opt (f ρ) fun d => .nx (ρ.set i (.own (.lst d))) := by
  unfold sSetF
  cases f ρ <;> rfl
def setN (i : Nat) (ρ : Env) : Ow → Out
  | .lst ds => .nx (ρ.set i (.own (.lst ds)))
  | .dic ks ds => .nx (ρ.set i (.own (.dic ks ds)))
  | _ => .stuck
@[simp] theorem setN_lst {i ρ ds} : setN i ρ (.lst ds) = .nx (ρ.set i (.own (.lst ds))) := rfl
@[simp] theorem sSetN_x {i f ρ} : sSetN i f ρ = opt (f ρ) (setN i ρ) := by
  unfold sSetN
  cases f ρ with
  | none => rfl
  | some o => cases o <;> rfl
@[simp] theorem sDrop_x {f ρ} : sDrop f ρ = opt (f ρ) fun _ => .nx ρ := by
  unfold sDrop
  cases f ρ <;> rfl
@[simp] theorem sRet_x {f ρ} : sRet f ρ = opt (f ρ) .rt := by
  unfold sRet
  cases f ρ <;> rfl
@[simp] theorem sRetF_x {f ρ} : sRetF f ρ = opt (f ρ) fun d => .rf (.lst d) := by
  unfold sRetF
  cases f ρ <;> rfl
@[simp] theorem sRetO_x {f ρ} : sRetO f ρ = opt (f ρ) .rf := by
  unfold sRetO
  cases f ρ <;> rfl
@[simp] theorem sRetN_x {ρ} : sRetN ρ = .rt .non := rfl
def retV : Cell → Out
  | .own o => .rf o
  | .sh d => .rt d
  | .no => .stuck
@[simp] theorem retV_own {o} : retV (.own o) = .rf o := rfl
@[simp] theorem retV_sh {o} : retV (.sh o) = .rt o := rfl
@[simp] theorem sRetV_x {i ρ} : sRetV i ρ = retV (cellAt ρ i) := by
  unfold sRetV
  cases cellAt ρ i <;> rfl
@[simp] theorem sIf_x {t F G ρ} : sIf t F G ρ = opt (t ρ) fun b => if b = true then F ρ else G ρ := by
  unfold sIf
  cases t ρ with
  | none => rfl
  | some b => cases b <;> rfl
def frzC : Cell → Cell
  | .own o => .sh o.toD
  | c => c
@[simp] theorem frzC_own {o} : frzC (.own o) = .sh o.toD := rfl
@[simp] theorem frzC_sh {o} : frzC (.sh o) = .sh o := rfl
@[simp] theorem frzC_no : frzC .no = .no := rfl
@[simp] theorem frz_z {c : Cell} {r : Env} : frz 0 (c :: r) = frzC c :: r := by
  unfold frz
  cases c <;> rfl
@[simp] theorem frz_s {i} {c : Cell} {r : Env} : frz (i + 1) (c :: r) = c :: frz i r := by
  unfold frz
  rw [cellAt_s]
  cases cellAt r i <;> rfl
def app (ρ : Env) (i : Nat) (c : Cell) (d : D) : Out := match c with
  | .own (.lst ds) => if ds.length < 16777216 then .nx (ρ.set i (.own (.lst (ds ++ [d])))) else .stuck
  | _ => .stuck
@[simp] theorem app_x {ρ i ds d} : app ρ i (.own (.lst ds)) d = if ds.length < 16777216 then .nx (ρ.set i (.own (.lst (ds ++ [d])))) else .stuck := rfl
@[simp] theorem sApp_x {i f ρ} : sApp i f ρ = opt (f ρ) (app ρ i (cellAt ρ i)) := by
  unfold sApp
  cases f ρ with
  | none =>
    rw [show opt none (app ρ i (cellAt ρ i)) = .stuck from rfl]
    split <;> simp_all
  | some d =>
    rw [opt_some]
    unfold app
    cases cellAt ρ i with
    | own o => cases o <;> rfl
    | _ => rfl
def augI (ρ : Env) (i : Nat) (o : Int → Int → Int) (c : Cell) : D → Out
  | .int b => match c with
    | .sh (.int a) => .nx (ρ.set i (.sh (.int (o a b))))
    | _ => .stuck
  | _ => .stuck
@[simp] theorem augI_x {ρ i o a b} : augI ρ i o (.sh (.int a)) (.int b) = .nx (ρ.set i (.sh (.int (o a b)))) := rfl
@[simp] theorem sAugI_x {o i f ρ} : sAugI o i f ρ = opt (f ρ) (augI ρ i o (cellAt ρ i)) := by
  unfold sAugI
  cases f ρ with
  | none =>
    rw [show opt none (augI ρ i o (cellAt ρ i)) = .stuck from rfl]
    split <;> simp_all
  | some d =>
    rw [opt_some]
    unfold augI
    cases d with
    | int b =>
      cases cellAt ρ i with
      | sh e => cases e <;> rfl
      | _ => rfl
    | _ =>
      dsimp only
      split <;> simp_all
@[simp] theorem sFor_x {f t F ρ} : sFor f t F ρ = opt (f ρ) fun ds => loopF t F ds ρ := by
  unfold sFor
  cases f ρ <;> rfl
@[simp] theorem put_nm {i d ρ} : put (.nm i) d ρ = some (ρ.set i (.sh d)) := rfl
@[simp] theorem put_tp {is ds ρ} : put (.tp is) (.tup ds) ρ = putL is ds ρ := rfl
@[simp] theorem putL_nil {ρ} : putL [] [] ρ = some ρ := rfl
@[simp] theorem putL_cons {i is d ds ρ} : putL (i :: is) (d :: ds) ρ = putL is ds (ρ.set i (.sh d)) := rfl
@[simp] theorem sUnp_x {t f ρ} : sUnp t f ρ = opt ((f ρ).bind fun d => put t d ρ) .nx := by
  unfold sUnp
  cases (f ρ).bind fun d => put t d ρ <;> rfl
@[simp] theorem loop_nil {t F ρ} : loopF t F [] ρ = .nx ρ := rfl
def Out.turn : Out → Sf → Out
  | .nx ρ, F => F ρ
  | .ct ρ, F => F ρ
  | .bk ρ, _ => .nx ρ
  | o, _ => o
theorem loop_cons {t F d ds ρ} : loopF t F (d :: ds) ρ = opt (put t d ρ) fun ρ1 => (F ρ1).turn (loopF t F ds) := by
  show (match put t d ρ with | none => Out.stuck | some ρ1 => _) = _
  cases put t d ρ with
  | none => rfl
  | some ρ1 =>
    rw [opt_some]
    dsimp only
    cases F ρ1 <;> rfl
@[simp] theorem turn_nx {ρ F} : Out.turn (.nx ρ) F = F ρ := rfl
@[simp] theorem turn_ct {ρ F} : Out.turn (.ct ρ) F = F ρ := rfl
@[simp] theorem turn_bk {ρ F} : Out.turn (.bk ρ) F = .nx ρ := rfl
@[simp] theorem turn_rt {ρ F} : Out.turn (.rt ρ) F = .rt ρ := rfl
@[irreducible] def RngOk (j : Int) : Prop := j < 4611686018427387904 ∧ -4611686018427387904 ≤ j
theorem rngOk {j : Int} (h : -1000000000 ≤ j ∧ j ≤ 1000000000) : RngOk j := by
  unfold RngOk
  omega
open Classical in
noncomputable def rng1 : List D → Option (List D)
  | [.int j] => if RngOk j then some (rangeD 0 j.toNat) else none
  | _ => none
open Classical in
noncomputable def rng2 : List D → Option (List D)
  | [.int i, .int j] => if RngOk j ∧ RngOk i then some (rangeD i (j - i).toNat) else none
  | _ => none
theorem rng1_x {j : Int} (h : -1000000000 ≤ j ∧ j ≤ 1000000000) : rng1 [.int j] = some (rangeD 0 j.toNat) := if_pos (rngOk h)
theorem rng2_x {i j : Int} (h : (-1000000000 ≤ j ∧ j ≤ 1000000000) ∧ -1000000000 ≤ i ∧ i ≤ 1000000000) : rng2 [.int i, .int j] = some (rangeD i (j - i).toNat) := if_pos ⟨rngOk h.1, rngOk h.2⟩
@[simp] theorem aRng1_x {f ρ} : aRng1 f ρ = (f ρ).bind rng1 := by
  unfold aRng1
  cases f ρ with
  | none => rfl
  | some ds =>
    show _ = rng1 ds
    unfold rng1 RngOk
    split <;> simp_all
@[simp] theorem aRng2_x {f ρ} : aRng2 f ρ = (f ρ).bind rng2 := by
  unfold aRng2
  cases f ρ with
  | none => rfl
  | some ds =>
    show _ = rng2 ds
    unfold rng2 RngOk
    split <;> simp_all
@[simp] theorem aItems_x {f ρ} : aItems f ρ = (f ρ).bind itemsOf := rfl
@[simp] theorem aComp_x {fs tg t f ρ} : aComp fs tg t f ρ = (fs ρ).bind fun ds => if ds.length ≤ 16777216 then compL tg t f ds (wipeR ρ tg.ixs) else none := rfl
@[simp] theorem wipe_nil {ρ} : wipeR ρ [] = ρ := rfl
@[simp] theorem wipe_cons {ρ v vs} : wipeR ρ (v :: vs) = (wipeR ρ vs).set v .no := rfl
@[simp] theorem ixs_nm {i} : (Tg.nm i).ixs = [i] := rfl
@[simp] theorem ixs_tp {i} : (Tg.tp i).ixs = i := rfl
@[simp] theorem retOf_rt {d} : retOf (.rt d) = .ok d := rfl
@[simp] theorem retOf_rf {d} : retOf (.rf d) = .fr d := rfl
@[simp] theorem retOf_nx {d} : retOf (.nx d) = .ok .non := rfl
@[simp] theorem retOf_ite {p : Prop} [Decidable p] {a b : Out} : retOf (if p then a else b) = if p then retOf a else retOf b := by
  split <;> rfl
theorem startR_x {n ds} : startR n ds = ds.map Cell.sh ++ List.replicate (n - ds.length) Cell.no := rfl
/-! loops and comprehensions by what every turn does -/
theorem loop_inv {t : Tg} {F : Sf} : ∀ {ds : List D} {ρ : Env} (I : Nat → Env → Prop), I 0 ρ → (∀ (i : Nat) (d : D) (ρ : Env), ds[i]? = some d → I i ρ → ∃ ρ1, put t d ρ = some ρ1 ∧ ∃ ρ2, (F ρ1 = .nx ρ2 ∨ F ρ1 = .ct ρ2) ∧ I (i + 1) ρ2) → ∃ ρ', loopF t F ds ρ = .nx ρ' ∧ I ds.length ρ'
  | [], ρ, I, h0, _ => ⟨ρ, rfl, h0⟩
  | d :: ds, ρ, I, h0, hs => by
    obtain ⟨ρ1, e1, ρ2, e2, h1⟩ := hs 0 d ρ rfl h0
    obtain ⟨ρ', e3, h3⟩ := loop_inv (ds := ds) (ρ := ρ2) (t := t) (F := F) (fun i => I (i + 1)) h1 fun i d' ρ' hi => hs (i + 1) d' ρ' (by simpa using hi)
    refine ⟨ρ', ?_, h3⟩
    rw [loop_cons, e1, opt_some]
    rcases e2 with e2 | e2
    · rw [e2]
      exact e3
    · rw [e2]
      exact e3
theorem comp_map {tg : Tg} {t : Tf} {f : Ef} {ρ : Env} : ∀ {ds es : List D}, es.length = ds.length → (∀ (i : Nat) (d e : D), ds[i]? = some d → es[i]? = some e → ∃ ρ1, put tg d ρ = some ρ1 ∧ t ρ1 = some true ∧ f ρ1 = some e) → compL tg t f ds ρ = some es
  | [], [], _, _ => rfl
  | d :: ds, [], h, _ => by simp at h
  | [], e :: es, h, _ => by simp at h
  | d :: ds, e :: es, h, hs => by
    obtain ⟨ρ1, e1, e2, e3⟩ := hs 0 d e rfl rfl
    have ih := comp_map (ds := ds) (es := es) (tg := tg) (t := t) (f := f) (ρ := ρ) (by simpa using h) fun i d' e' h1 h2 => hs (i + 1) d' e' (by simpa using h1) (by simpa using h2)
    show (put tg d ρ).bind _ = _
    rw [e1, Option.bind_some, e2, Option.bind_some, if_pos rfl, e3, Option.bind_some, ih]
    rfl
theorem comp_fun {i : Nat} {f : Ef} {ρ : Env} {g : D → D} {ds : List D} (h : ∀ d ∈ ds, f (ρ.set i (.sh d)) = some (g d)) : compL (.nm i) tYesF f ds ρ = some (ds.map g) :=
  comp_map (by rw [List.length_map]) fun j d e h1 h2 => by
    rw [List.getElem?_map, h1] at h2
    cases h2
    exact ⟨_, rfl, rfl, h d (List.mem_of_getElem? h1)⟩
theorem comp_filter {i : Nat} {t : Tf} {f : Ef} {ρ : Env} {p : D → Bool} {g : D → D} : ∀ {ds : List D}, (∀ d ∈ ds, t (ρ.set i (.sh d)) = some (p d)) → (∀ d ∈ ds, p d = true → f (ρ.set i (.sh d)) = some (g d)) → compL (.nm i) t f ds ρ = some ((ds.filter p).map g)
  | [], _, _ => rfl
  | d :: ds, h1, h2 => by
    have ih := comp_filter (ds := ds) (i := i) (t := t) (f := f) (ρ := ρ) (p := p) (g := g) (fun d hd => h1 d (List.mem_cons_of_mem _ hd)) (fun d hd => h2 d (List.mem_cons_of_mem _ hd))
    show (put (.nm i) d ρ).bind _ = _
    rw [put_nm, Option.bind_some, h1 d (List.mem_cons_self ..), Option.bind_some]
    cases e : p d with
    | true =>
      rw [if_pos rfl, h2 d (List.mem_cons_self ..) e, Option.bind_some, ih, List.filter_cons_of_pos e]
      rfl
    | false =>
      rw [if_neg (by simp), ih, List.filter_cons_of_neg (by rw [e]; simp)]
@[simp] theorem rangeD_len {lo n} : (rangeD lo n).length = n := by simp [rangeD]
theorem rangeD_get {lo : Int} {n i : Nat} {d : D} (h : (rangeD lo n)[i]? = some d) : i < n ∧ d = .int (lo + (i : Nat)) := by
  unfold rangeD at h
  rw [List.getElem?_map] at h
  obtain ⟨k, e1, e2⟩ := map_some2 h
  obtain ⟨hlt, e3⟩ := List.getElem?_eq_some_iff.mp e1
  rw [List.length_range] at hlt
  rw [List.getElem_range] at e3
  subst e3
  exact ⟨hlt, e2.symm⟩
theorem rangeD_mem {lo : Int} {n : Nat} {d : D} (h : d ∈ rangeD lo n) : ∃ i : Nat, i < n ∧ d = .int (lo + (i : Nat)) := by
  unfold rangeD at h
  obtain ⟨k, e1, e2⟩ := List.mem_map.mp h
  exact ⟨k, List.mem_range.mp e1, e2.symm⟩
end Fw

/-! FwD: the shared defs of the laws' own texts. -/
namespace Fw
open PySem PySem.Spec PyProof.Rows L2
theorem loop_checks {j : Nat} {F : Sf} : ∀ {ds : List D} {ρ : Env}, (∀ (i : Nat) (d : D), ds[i]? = some d → F (ρ.set j (.sh d)) = .nx (ρ.set j (.sh d))) → ∃ c, loopF (.nm j) F ds ρ = .nx (ρ.set j c) := by
  intro ds ρ h
  obtain ⟨ρ', e, c, rfl⟩ := loop_inv (t := .nm j) (F := F) (ds := ds) (ρ := ρ) (fun _ ρ' => ∃ c, ρ' = ρ.set j c) (by
    by_cases hj : j < ρ.length
    · exact ⟨ρ[j], (List.set_getElem_self hj).symm⟩
    · exact ⟨.no, (List.set_eq_of_length_le (by omega)).symm⟩) (by
    rintro i d _ hi ⟨c, rfl⟩
    refine ⟨_, rfl, _, .inl ?_, ⟨.sh d, rfl⟩⟩
    rw [List.set_set]
    exact h i d hi)
  exact ⟨c, e⟩
def m_whole : Sf :=
    (sRet (eAnd (eArgs oIsi (aCons (eVar 0) (aCons (eC (.ty "int")) aNil))) (e1o oNot (eArgs oIsi (aCons (eVar 0) (aCons (eC (.ty "bool")) aNil))))))
def wholeF : List D → Ret := runF 1 m_whole
def m_cell : Sf :=
    (sSeq (sIf (tB1 (eBin oLt (eVar 1) (eArgs oLen (aCons (eVar 0) aNil))))
    (sRet (eBin oIx (eVar 0) (eVar 1)))
    sNext)
    (sSeq (sSet 2 (eC (.int 17)))
    (sSeq (sFor (aItems (eVar 0)) (.nm 3)
    (sSet 2 (eBin oMod (eArgs oToInt (aCons (eBin oAdd (eBin oMul (eVar 2) (eC (.int 31))) (eBin oMod (eArgs oToInt (aCons (eVar 3) aNil)) (eC (.int 1000003)))) aNil)) (eC (.int 1000003)))))
    (sRet (eBin oMod (eArgs oToInt (aCons (eBin oMul (eBin oMul (eBin oAdd (eVar 2) (eC (.int 7))) (eBin oAdd (eVar 1) (eC (.int 3)))) (eC (.int 69621))) aNil)) (eC (.int 2147483647)))))))
def cellF : List D → Ret := runF 4 m_cell
def m_digits : Sf :=
    (sSeq (sSetF 2 (aLst aNil))
    (sSeq (sSet 3 (eArgs oToInt (aCons (eVar 0) aNil)))
    (sSeq (sIf (tB1 (eBin oGe (eVar 3) (eBin oPow (eC (.int 10)) (eC (.int 18)))))
    (sSeq (sSet 3 (eBin oSub (eVar 3) (eBin oPow (eC (.int 10)) (eC (.int 18)))))
    (sSeq (sFor (aItems (eVar 1)) (.nm 4)
    (sSeq (sApp 2 (eBin oMod (eArgs oToInt (aCons (eVar 3) aNil)) (eVar 4)))
    (sSet 3 (eBin oFdiv (eArgs oToInt (aCons (eVar 3) aNil)) (eVar 4)))))
    (sRetV 2)))
    sNext)
    (sSeq (sSet 5 (eBin oMod (eArgs oToInt (aCons (eVar 3) aNil)) (eC (.int 2147483629))))
    (sSeq (sFor (aRng1 (aCons (eArgs oLen (aCons (eVar 1) aNil)) aNil)) (.nm 6)
    (sSeq (sSet 5 (eBin oMod (eArgs oToInt (aCons (eBin oAdd (eBin oAdd (eBin oMul (eVar 5) (eC (.int 48271))) (eBin oMul (eC (.int 974711)) (eVar 6))) (eC (.int 12345))) aNil)) (eC (.int 2147483647))))
    (sSeq (sSet 7 (eBin oMod (eArgs oToInt (aCons (eBin oMul (eVar 5) (eBin oAdd (eBin oFdiv (eVar 5) (eC (.int 65537))) (eC (.int 3)))) aNil)) (eC (.int 2147483629))))
    (sApp 2 (eBin oMod (eArgs oToInt (aCons (eBin oFdiv (eVar 7) (eC (.int 19))) aNil)) (eBin oIx (eVar 1) (eVar 6)))))))
    (sRetV 2))))))
def digitsF : List D → Ret := runF 8 m_digits

theorem whole_int (i : Int) : wholeF [.int i] = .ok (.bl true) := by
  simp -implicitDefEqProofs [wholeF, runF, m_whole, startR]
theorem cell_ok (ns : List Int) (k : Nat) (hk : k ≤ 100000) : ∃ c : Int, cellF [.fl (ns.map .int), .int k] = .ok (.int c) := by
  by_cases hkn : k < ns.length
  · refine ⟨ns[k], ?_⟩
    simp -implicitDefEqProofs [cellF, runF, m_cell, startR, hkn, ixD_nat]
  · obtain ⟨ρ', e, s, c, rfl, h0, h1⟩ := loop_inv (t := .nm 3) (F := (sSet 2 (eBin oMod (eArgs oToInt (aCons (eBin oAdd (eBin oMul (eVar 2) (eC (.int 31))) (eBin oMod (eArgs oToInt (aCons (eVar 3) aNil)) (eC (.int 1000003)))) aNil)) (eC (.int 1000003)))))
      (ds := ns.map .int) (ρ := [.sh (.fl (ns.map .int)), .sh (.int k), .sh (.int 17), .no]) (fun _ ρ => ∃ (s : Int) (c : Cell), ρ = [.sh (.fl (ns.map .int)), .sh (.int k), .sh (.int s), c] ∧ 0 ≤ s ∧ s < 1000003) ⟨17, .no, rfl, by omega, by omega⟩ (by
      rintro i d _ hi ⟨s, c, rfl, h0, h1⟩
      rw [List.getElem?_map] at hi
      obtain ⟨n, _, rfl⟩ := map_some2 hi
      refine ⟨_, rfl, _, .inl ?_, ⟨(s * 31 + n % 1000003) % 1000003, .sh (.int n), rfl, by omega, by omega⟩⟩
      simp -implicitDefEqProofs (disch := omega) [oMul_b])
    refine ⟨(s + 7) * (k + 3) * 69621 % 2147483647, ?_⟩
    simp -implicitDefEqProofs (disch := omega) [cellF, runF, m_cell, startR, hkn, e, oMul_a, oMul_b]
theorem digits_ok (c : Int) (sizes : List Int) (h : ∀ s ∈ sizes, 0 < s ∧ s < 1073741824) (hl : sizes.length ≤ 100000) :
    ∃ ds : List Int, digitsF [.int c, .lst (sizes.map .int)] = .fr (.lst (ds.map .int)) ∧ ds.length = sizes.length ∧ ∀ (i : Nat) (d s : Int), ds[i]? = some d → sizes[i]? = some s → 0 ≤ d ∧ d < s := by
  by_cases hc : 10 ^ 18 ≤ c
  · obtain ⟨ρ', e, r, x, ds, rfl, h0, h1⟩ := loop_inv (t := .nm 4) (F := (sSeq (sApp 2 (eBin oMod (eArgs oToInt (aCons (eVar 3) aNil)) (eVar 4)))
    (sSet 3 (eBin oFdiv (eArgs oToInt (aCons (eVar 3) aNil)) (eVar 4)))))
      (ds := sizes.map .int) (ρ := [.sh (.int c), .sh (.lst (sizes.map .int)), .own (.lst []), .sh (.int (c - 10 ^ 18)), .no, .no, .no, .no])
      (fun i ρ => ∃ (r : Int) (x : Cell) (ds : List Int), ρ = [.sh (.int c), .sh (.lst (sizes.map .int)), .own (.lst (ds.map .int)), .sh (.int r), x, .no, .no, .no] ∧ ds.length = i ∧ ∀ (j : Nat) (d s : Int), ds[j]? = some d → sizes[j]? = some s → 0 ≤ d ∧ d < s)
      ⟨c - 10 ^ 18, .no, [], rfl, rfl, fun j d s h => by simp at h⟩ (by
      rintro i d _ hi ⟨r, x, ds, rfl, h0, h1⟩
      rw [List.getElem?_map] at hi
      obtain ⟨n, hn, rfl⟩ := map_some2 hi
      have hp := h n (List.mem_of_getElem? hn)
      have hi2 := (List.getElem?_eq_some_iff.mp hn).1
      refine ⟨_, rfl, _, .inl ?_, ⟨r / n, .sh (.int n), ds ++ [r % n], rfl, by rw [List.length_append, h0]; rfl, fun j d s h2 h3 => ?_⟩⟩
      · have : ds.length < 16777216 := by omega
        simp -implicitDefEqProofs (disch := omega) [oMod_p, oFdiv_p, this]
      · by_cases hj : j < ds.length
        · rw [List.getElem?_append_left hj] at h2
          exact h1 j d s h2 h3
        · have hj2 : j = ds.length := by
            have := (List.getElem?_eq_some_iff.mp h2).1
            rw [List.length_append] at this
            simp at this
            omega
          subst hj2
          rw [h0] at h3
          rw [hn] at h3
          cases h3
          simp at h2
          subst h2
          exact ⟨Int.emod_nonneg _ (by omega), Int.emod_lt_of_pos _ hp.1⟩)
    refine ⟨ds, ?_, by rw [h0, List.length_map], h1⟩
    simp -implicitDefEqProofs (disch := omega) [digitsF, runF, m_digits, startR] 
    simp at hc
    simp -implicitDefEqProofs at e
    simp -implicitDefEqProofs [e, hc]
  · obtain ⟨ρ', e, r, x, y, ds, rfl, h2, h3, h0, h1⟩ := loop_inv (t := .nm 6) (F := (sSeq (sSet 5 (eBin oMod (eArgs oToInt (aCons (eBin oAdd (eBin oAdd (eBin oMul (eVar 5) (eC (.int 48271))) (eBin oMul (eC (.int 974711)) (eVar 6))) (eC (.int 12345))) aNil)) (eC (.int 2147483647))))
    (sSeq (sSet 7 (eBin oMod (eArgs oToInt (aCons (eBin oMul (eVar 5) (eBin oAdd (eBin oFdiv (eVar 5) (eC (.int 65537))) (eC (.int 3)))) aNil)) (eC (.int 2147483629))))
    (sApp 2 (eBin oMod (eArgs oToInt (aCons (eBin oFdiv (eVar 7) (eC (.int 19))) aNil)) (eBin oIx (eVar 1) (eVar 6)))))))
      (ds := rangeD 0 sizes.length) (ρ := [.sh (.int c), .sh (.lst (sizes.map .int)), .own (.lst []), .sh (.int c), .no, .sh (.int (c % 2147483629)), .no, .no])
      (fun i ρ => ∃ (r : Int) (x y : Cell) (ds : List Int), ρ = [.sh (.int c), .sh (.lst (sizes.map .int)), .own (.lst (ds.map .int)), .sh (.int c), .no, .sh (.int r), x, y] ∧ 0 ≤ r ∧ r < 2147483648 ∧ ds.length = i ∧ ∀ (j : Nat) (d s : Int), ds[j]? = some d → sizes[j]? = some s → 0 ≤ d ∧ d < s)
      ⟨c % 2147483629, .no, .no, [], rfl, by omega, by omega, rfl, fun j d s h => by simp at h⟩ (by
      rintro i d _ hi ⟨r, x, y, ds, rfl, h2, h3, h0, h1⟩
      obtain ⟨hi2, rfl⟩ := rangeD_get hi
      have hn : sizes[i]? = some sizes[i] := List.getElem?_eq_getElem hi2
      have hp := h sizes[i] (List.getElem_mem hi2)
      have hs : ds.length < 16777216 := by omega
      let r2 : Int := (r * 48271 + 974711 * i + 12345) % 2147483647
      have hr2 : 0 ≤ r2 ∧ r2 < 2147483647 := ⟨Int.emod_nonneg _ (by omega), Int.emod_lt_of_pos _ (by omega)⟩
      refine ⟨_, rfl, _, .inl ?_, ⟨r2, .sh (.int i), .sh (.int (r2 * (r2 / 65537 + 3) % 2147483629)), ds ++ [r2 * (r2 / 65537 + 3) % 2147483629 / 19 % sizes[i]], rfl, by omega, by omega, by rw [List.length_append, h0]; rfl, fun j d s h4 h5 => ?_⟩⟩
      · have e1 : (r * 48271 + 974711 * i + 12345) % 2147483647 = r2 := rfl
        simp -implicitDefEqProofs (disch := omega) [oMod_p, oFdiv_p, oMul_a, oMul_b, hs, e1, ixD_nat, hi2, hp]
      · by_cases hj : j < ds.length
        · rw [List.getElem?_append_left hj] at h4
          exact h1 j d s h4 h5
        · have hj2 : j = ds.length := by
            have := (List.getElem?_eq_some_iff.mp h4).1
            rw [List.length_append] at this
            simp at this
            omega
          subst hj2
          rw [h0] at h5
          rw [hn] at h5
          cases h5
          simp at h4
          subst h4
          exact ⟨Int.emod_nonneg _ (by omega), Int.emod_lt_of_pos _ hp.1⟩)
    refine ⟨ds, ?_, by rw [h0, rangeD_len], h1⟩
    simp -implicitDefEqProofs (disch := omega) [digitsF, runF, m_digits, startR, hc, rng1_x, e]
    simp -implicitDefEqProofs [e, show ¬ (1000000000000000000 ≤ c) by omega]
end Fw

/-! FwG: frozen and games. -/
namespace Fw
open PySem PySem.Spec PyProof.Rows L2
def frozenM (r_frozen : List D → Ret) : Sf :=
    (sSeq (sIf (tB1 (eArgs oIsi (aCons (eVar 0) (aCons (eTup (aCons (eC (.ty "list")) (aCons (eC (.ty "tuple")) aNil))) aNil))))
    (sRet (eArgs oTuple (aCons (fL (aComp (aItems (eVar 0)) (.nm 1) tYesF (eCall r_frozen (aCons (eVar 1) aNil)))) aNil)))
    sNext)
    (sRet (eVar 0)))
def frozenF : Nat → List D → Ret
  | 0 => fun _ => .stuck
  | k + 1 => runF 2 (frozenM (frozenF k))
def Game_topM : Sf :=
    (sRet (e1o (oMaxD 0) (e1o (oFld 0 1) (eVar 0))))
def Game_topF : List D → Ret := runF 1 Game_topM
def Game_ceilingM : Sf :=
    (sRet (eBin oSub (eBin oAdd (eProp 0 Game_topF (eVar 0)) (eC (.int 2))) (eBin oMod (eProp 0 Game_topF (eVar 0)) (eC (.int 2)))))
def Game_ceilingF : List D → Ret := runF 1 Game_ceilingM
def is_numberM : Sf :=
    (sRet (eAnd (eArgs oIsi (aCons (eVar 0) (aCons (eC (.ty "int")) aNil))) (e1o oNot (eArgs oIsi (aCons (eVar 0) (aCons (eC (.ty "bool")) aNil))))))
def is_numberF : List D → Ret := runF 1 is_numberM
def is_betweenM : Sf :=
    (sRet (eAnd (eCall is_numberF (aCons (eVar 0) aNil)) (tChainF oLe oLe (eVar 1) (eVar 0) (eVar 2))))
def is_betweenF : List D → Ret := runF 3 is_betweenM
def is_successor_rowM : Sf :=
    (sSeq (sIf (tNotF (tB1 (eArgs oIsi (aCons (eVar 0) (aCons (eC (.ty "tuple")) aNil)))))
    (sRet (eC (.bl false)))
    sNext)
    (sSeq (sSet 2 (e1o oNeg (eC (.int 1))))
    (sSeq (sFor (aItems (eVar 0)) (.nm 3)
    (sSeq (sIf (tNotF (tB1 (eCall is_betweenF (aCons (eVar 3) (aCons (eBin oAdd (eVar 2) (eC (.int 1))) (aCons (eBin oSub (eVar 1) (eC (.int 1))) aNil))))))
    (sRet (eC (.bl false)))
    sNext)
    (sSet 2 (eVar 3))))
    (sRet (eBin oGt (eArgs oLen (aCons (eVar 0) aNil)) (eC (.int 0)))))))
def is_successor_rowF : List D → Ret := runF 4 is_successor_rowM
def Game_initM : Sf :=
    (sSeq (sFst 0 0 0 (eCall (frozenF 4) (aCons (eVar 1) aNil)))
    (sSeq (sFst 0 0 1 (eCall (frozenF 4) (aCons (eVar 2) aNil)))
    (sSeq (sFst 0 0 2 (eCall (frozenF 4) (aCons (eVar 3) aNil)))
    (sSeq (sSet 4 (eArgs oLen (aCons (e1o (oFld 0 0) (eOwn 0)) aNil)))
    (sSeq (sFor (aRng1 (aCons (eVar 4) aNil)) (.nm 5)
    (sSeq (sSet 6 (eAnd (eCall is_betweenF (aCons (eBin oIx (e1o (oFld 0 0) (eOwn 0)) (eVar 5)) (aCons (eC (.int 0)) (aCons (eC (.int 1)) aNil)))) (eCall is_betweenF (aCons (eBin oIx (e1o (oFld 0 1) (eOwn 0)) (eVar 5)) (aCons (eC (.int 0)) (aCons (eC (.int 30)) aNil))))))
    (sIf (tOrF (tNotF (tB1 (eVar 6))) (tNotF (tB1 (eCall is_successor_rowF (aCons (eBin oIx (e1o (oFld 0 2) (eOwn 0)) (eVar 5)) (aCons (eVar 4) aNil))))))
    sStuck
    sNext)))
    (sFst 0 0 3 (eBin oFdiv (eBin oAdd (eProp 0 Game_topF (eOwn 0)) (eC (.int 1))) (eC (.int 2)))))))))
def Game_initF : List D → Option (List D) := runI 0 7 Game_initM

theorem rng1_n {n : Nat} (h : n ≤ 1000000000) : rng1 [.int n] = some (rangeD 0 n) := by
  rw [rng1_x (by omega), Int.toNat_natCast]
theorem frozen_int (n : Nat) (i : Int) : frozenF (n + 1) [.int i] = .ok (.int i) := by
  simp -implicitDefEqProofs [frozenF, runF, frozenM, startR]
theorem frozen_seq {n : Nat} {d : D} {ds : List D} {g : D → D} (hd : d = .lst ds ∨ d = .tup ds) (hl : ds.length ≤ 16777216) (h : ∀ x ∈ ds, frozenF n [x] = .ok (g x)) : frozenF (n + 1) [d] = .ok (.tup (ds.map g)) := by
  have hc : compL (.nm 1) tYesF (eCall (frozenF n) (aCons (eVar 1) aNil)) ds [.sh d, .no] = some (ds.map g) := comp_fun fun x hx => by
    simp -implicitDefEqProofs [h x hx]
  rcases hd with rfl | rfl
  · simp -implicitDefEqProofs [frozenF, runF, frozenM, startR, hc, hl]
  · simp -implicitDefEqProofs [frozenF, runF, frozenM, startR, hc, hl]
theorem frozen_ints {n : Nat} {d : D} {ns : List Int} (hd : d = .lst (ns.map .int) ∨ d = .tup (ns.map .int)) (hl : ns.length ≤ 16777216) : frozenF (n + 2) [d] = .ok (.tup (ns.map .int)) := by
  have z := frozen_seq (n := n + 1) (g := id) hd (by rw [List.length_map]; exact hl) fun x hx => by
    obtain ⟨i, _, rfl⟩ := List.mem_map.mp hx
    exact frozen_int n i
  rw [z, List.map_id]
def rowD (r : List Int) : D := .tup (r.map .int)
def rowL (r : List Int) : D := .lst (r.map .int)
theorem frozen_rows {n : Nat} {d : D} {rows : List (List Int)} (hd : d = .lst (rows.map rowL) ∨ d = .tup (rows.map rowD)) (hl : rows.length ≤ 16777216) (hr : ∀ r ∈ rows, r.length ≤ 16777216) : frozenF (n + 3) [d] = .ok (.tup (rows.map rowD)) := by
  rcases hd with hd | hd
  · have z := frozen_seq (n := n + 2) (d := d) (ds := rows.map rowL) (g := fun x => match x with | .lst y => .tup y | x => x) (.inl hd) (by rw [List.length_map]; exact hl) fun x hx => by
      obtain ⟨r, h1, rfl⟩ := List.mem_map.mp hx
      exact frozen_ints (.inl rfl) (hr r h1)
    rw [z, List.map_map]
    rfl
  · have z := frozen_seq (n := n + 2) (d := d) (ds := rows.map rowD) (g := id) (.inr hd) (by rw [List.length_map]; exact hl) fun x hx => by
      obtain ⟨r, h1, rfl⟩ := List.mem_map.mp hx
      exact frozen_ints (.inr rfl) (hr r h1)
    rw [z, List.map_id]
theorem between_int (i a b : Int) : is_betweenF [.int i, .int a, .int b] = .ok (.bl (decide (a ≤ i ∧ i ≤ b))) := by
  simp -implicitDefEqProofs [is_betweenF, runF, is_betweenM, startR, is_numberF, is_numberM]
  by_cases h : a ≤ i <;> simp -implicitDefEqProofs [h]
/-- strictly ascending from above b, below c -/
def Asc (c : Int) : Int → List Int → Prop
  | _, [] => True
  | b, v :: r => b + 1 ≤ v ∧ v ≤ c - 1 ∧ Asc c v r
theorem loop_asc {c : Int} {d : D} : ∀ {r : List Int} {b : Int} {x : Cell}, Asc c b r → ∃ b' x', loopF (.nm 3) (sSeq (sIf (tNotF (tB1 (eCall is_betweenF (aCons (eVar 3) (aCons (eBin oAdd (eVar 2) (eC (.int 1))) (aCons (eBin oSub (eVar 1) (eC (.int 1))) aNil))))))
    (sRet (eC (.bl false))) sNext) (sSet 2 (eVar 3))) (r.map .int) [.sh d, .sh (.int c), .sh (.int b), x] = .nx [.sh d, .sh (.int c), .sh (.int b'), x']
  | [], b, x, _ => ⟨b, x, rfl⟩
  | v :: r, b, x, h => by
    obtain ⟨b', x', e⟩ := loop_asc (c := c) (d := d) (r := r) (b := v) (x := .sh (.int v)) h.2.2
    refine ⟨b', x', ?_⟩
    rw [← e, List.map_cons, loop_cons]
    simp -implicitDefEqProofs [between_int, h.1, h.2.1]
theorem row_ok {c : Int} {r : List Int} (h : Asc c (-1) r) (hn : r ≠ []) : is_successor_rowF [rowD r, .int c] = .ok (.bl true) := by
  obtain ⟨b', x', e⟩ := loop_asc (c := c) (d := rowD r) (r := r) (b := -1) (x := .no) h
  have hp : 0 < r.length := List.length_pos_iff.mpr hn
  have e : loopF (.nm 3) (sSeq (sIf (tNotF (tB1 (eCall is_betweenF (aCons (eVar 3) (aCons (eBin oAdd (eVar 2) (eC (.int 1))) (aCons (eBin oSub (eVar 1) (eC (.int 1))) aNil))))))
    (sRet (eC (.bl false))) sNext) (sSet 2 (eVar 3))) (r.map .int) [.sh (.tup (r.map .int)), .sh (.int c), .sh (.int (-1)), .no] = _ := e
  simp -implicitDefEqProofs [is_successor_rowF, runF, is_successor_rowM, startR, rowD, oNeg, e, hp]
@[simp] theorem oFld_x {c i ds} : oFld c i (.ins c ds) = ds[i]? := if_pos rfl
@[simp] theorem eProp_x {c F f ρ} : eProp c F f ρ = (f ρ).bind fun d => match d with
  | .ins c' ds => if c' = c then (Fw.toD (F [.ins c ds])).bind scal else none
  | _ => none := rfl
@[simp] theorem scal_int {i} : scal (.int i) = some (.int i) := rfl
@[simp] theorem scal_bl {i} : scal (.bl i) = some (.bl i) := rfl
@[simp] theorem aMake_x {c F f ρ} : aMake c F f ρ = (f ρ).bind fun ds => (F ds).map fun zs => Ow.obj c zs := rfl
@[simp] theorem eMeth_x {c F f fs ρ} : eMeth c F f fs ρ = (f ρ).bind fun d => match d with
  | .ins c' ds => if c' = c then (fs ρ).bind fun zs => Fw.toD (F (.ins c ds :: zs)) else none
  | _ => none := by
  unfold eMeth
  cases f ρ with
  | none => rfl
  | some d => cases d <;> rfl
@[simp] theorem oLenO_x {c F ds} : oLenO c F [.ins c ds] = (Fw.toD (F [.ins c ds])).bind fun z => match z with
    | .int n => if 0 ≤ n ∧ n < 9223372036854775808 then some (.int n) else none
    | _ => none := if_pos rfl
@[simp] theorem oMaxD_tup {k} {ns : List Int} : oMaxD k (.tup (ns.map .int)) = some (.int (maxIx ns k)) := by
  unfold oMaxD numsOfD
  dsimp only
  rw [intsOf_map]
  rfl
@[simp] theorem oMaxD_lst {k} {ns : List Int} : oMaxD k (.lst (ns.map .int)) = some (.int (maxIx ns k)) := by
  unfold oMaxD numsOfD
  dsimp only
  rw [intsOf_map]
  rfl
def fst (ρ : Env) (i c j : Nat) (d : D) : Cell → Out
  | .own (.obj c' ds) => if c' = c then (if ds.length = j then .nx (ρ.set i (.own (.obj c (ds ++ [d])))) else if j < ds.length then .nx (ρ.set i (.own (.obj c (ds.set j d)))) else .stuck) else .stuck
  | _ => .stuck
@[simp] theorem fst_x {ρ i c j d ds} : fst ρ i c j d (.own (.obj c ds)) = if ds.length = j then .nx (ρ.set i (.own (.obj c (ds ++ [d])))) else if j < ds.length then .nx (ρ.set i (.own (.obj c (ds.set j d)))) else .stuck := if_pos rfl
@[simp] theorem sFst_x {i c j f ρ} : sFst i c j f ρ = opt (f ρ) fun d => fst ρ i c j d (cellAt ρ i) := by
  unfold sFst
  cases f ρ with
  | none =>
    show _ = Out.stuck
    split <;> simp_all
  | some d =>
    rw [opt_some]
    unfold fst
    cases cellAt ρ i with
    | own o => cases o <;> rfl
    | _ => rfl
def objOf (c : Nat) : Out → Option (List D)
  | .nx ρ => match cellAt ρ 0 with
    | .own (.obj c' zs) => if c' = c then some zs else none
    | _ => none
  | _ => none
@[simp] theorem objOf_x {c zs r} : objOf c (.nx (.own (.obj c zs) :: r)) = some zs := if_pos rfl
theorem runI_x {c n F ds} : runI c n F ds = objOf c (F (.own (.obj c []) :: startR (n - 1) ds)) := rfl
theorem top_ok {os : D} {ps : List Int} {rest : List D} : Game_topF [.ins 0 (os :: .tup (ps.map .int) :: rest)] = .ok (.int (maxIx ps 0)) := by
  simp -implicitDefEqProofs [Game_topF, runF, Game_topM, startR]
theorem ceiling_ok {os : D} {ps : List Int} {rest : List D} : Game_ceilingF [.ins 0 (os :: .tup (ps.map .int) :: rest)] = .ok (.int (maxIx ps 0 + 2 - maxIx ps 0 % 2)) := by
  simp -implicitDefEqProofs [Game_ceilingF, runF, Game_ceilingM, startR, top_ok]
/-- a game as data -/
def gameD (os ps : List Int) (ss : List (List Int)) : D := .ins 0 [.tup (os.map .int), .tup (ps.map .int), .tup (ss.map rowD), .int ((maxIx ps 0 + 1) / 2)]
structure GameOk (os ps : List Int) (ss : List (List Int)) : Prop where
  lp : ps.length = os.length
  ls : ss.length = os.length
  few : os.length ≤ 100000
  ow : ∀ o ∈ os, 0 ≤ o ∧ o ≤ 1
  pr : ∀ p ∈ ps, 0 ≤ p ∧ p ≤ 30
  su : ∀ r ∈ ss, r ≠ [] ∧ Asc os.length (-1) r
theorem init_game {os ps : List Int} {ss : List (List Int)} {a b c : D} (g : GameOk os ps ss) (ha : frozenF 4 [a] = .ok (.tup (os.map .int))) (hb : frozenF 4 [b] = .ok (.tup (ps.map .int))) (hc : frozenF 4 [c] = .ok (.tup (ss.map rowD))) :
    Game_initF [a, b, c] = some [.tup (os.map .int), .tup (ps.map .int), .tup (ss.map rowD), .int ((maxIx ps 0 + 1) / 2)] := by
  have hf := g.few
  obtain ⟨ρ', e, x, y, rfl⟩ := loop_inv (t := .nm 5) (F := (sSeq (sSet 6 (eAnd (eCall is_betweenF (aCons (eBin oIx (e1o (oFld 0 0) (eOwn 0)) (eVar 5)) (aCons (eC (.int 0)) (aCons (eC (.int 1)) aNil)))) (eCall is_betweenF (aCons (eBin oIx (e1o (oFld 0 1) (eOwn 0)) (eVar 5)) (aCons (eC (.int 0)) (aCons (eC (.int 30)) aNil))))))
    (sIf (tOrF (tNotF (tB1 (eVar 6))) (tNotF (tB1 (eCall is_successor_rowF (aCons (eBin oIx (e1o (oFld 0 2) (eOwn 0)) (eVar 5)) (aCons (eVar 4) aNil))))))
    sStuck
    sNext)))
    (ds := rangeD 0 os.length) (ρ := [.own (.obj 0 [.tup (os.map .int), .tup (ps.map .int), .tup (ss.map rowD)]), .sh a, .sh b, .sh c, .sh (.int os.length), .no, .no])
    (fun _ ρ => ∃ x y, ρ = [.own (.obj 0 [.tup (os.map .int), .tup (ps.map .int), .tup (ss.map rowD)]), .sh a, .sh b, .sh c, .sh (.int os.length), x, y]) ⟨.no, .no, rfl⟩ (by
    rintro i d _ hi ⟨x, y, rfl⟩
    obtain ⟨hi2, rfl⟩ := rangeD_get hi
    have h1 : i < ps.length := by rw [g.lp]; exact hi2
    have h2 : i < ss.length := by rw [g.ls]; exact hi2
    have k1 := g.ow os[i] (List.getElem_mem hi2)
    have k2 := g.pr ps[i] (List.getElem_mem h1)
    have k3 := g.su ss[i] (List.getElem_mem h2)
    refine ⟨_, rfl, _, .inl ?_, ⟨.sh (.int i), .sh (.bl true), rfl⟩⟩
    simp -implicitDefEqProofs [ixD_nat, hi2, h1, h2, between_int, k1, k2, row_ok k3.2 k3.1])
  have hr := rng1_n (n := os.length) (by omega)
  simp -implicitDefEqProofs [Game_initF, runI_x, Game_initM, startR, ha, hb, hc, hr, e, top_ok]
end Fw

/-! FwE: plain laws of lists. -/
namespace Fw
open PySem PySem.Spec PyProof.Rows L2
theorem comp_ints {i : Nat} {f : Ef} {ρ : Env} {g : Int → D} {ns : List Int} (h : ∀ n ∈ ns, f (ρ.set i (.sh (.int n))) = some (g n)) : compL (.nm i) tYesF f (ns.map .int) ρ = some (ns.map g) :=
  comp_map (by rw [List.length_map, List.length_map]) fun j d e h1 h2 => by
    rw [List.getElem?_map] at h1 h2
    obtain ⟨n, e1, rfl⟩ := map_some2 h1
    rw [e1] at h2
    cases h2
    exact ⟨_, rfl, rfl, h n (List.mem_of_getElem? e1)⟩
theorem comp_range {i : Nat} {f : Ef} {ρ : Env} {g : Nat → D} {n : Nat} {lo : Int} (h : ∀ k, k < n → f (ρ.set i (.sh (.int (lo + (k : Nat))))) = some (g k)) : compL (.nm i) tYesF f (rangeD lo n) ρ = some ((List.range n).map g) :=
  comp_map (by rw [rangeD_len, List.length_map, List.length_range]) fun j d e h1 h2 => by
    obtain ⟨hj, rfl⟩ := rangeD_get h1
    rw [List.getElem?_map, List.getElem?_range hj] at h2
    cases h2
    exact ⟨_, rfl, rfl, h j hj⟩
/-- the same value every time -/
theorem comp_same {i : Nat} {f : Ef} {ρ : Env} {d : D} {ds : List D} (h : ∀ x ∈ ds, f (ρ.set i (.sh x)) = some d) : compL (.nm i) tYesF f ds ρ = some (List.replicate ds.length d) := by
  rw [comp_fun (g := fun _ => d) h, List.map_const']
theorem take_min {α : Type} (xs : List α) (w : Nat) : xs.take (min w xs.length) = xs.take w := by
  by_cases h : w ≤ xs.length
  · rw [Nat.min_eq_left h]
  · rw [Nat.min_eq_right (by omega), List.take_length, List.take_of_length_le (by omega)]
theorem drop_min {α : Type} (xs : List α) (w : Nat) : xs.drop (min w xs.length) = xs.drop w := by
  by_cases h : w ≤ xs.length
  · rw [Nat.min_eq_left h]
  · rw [Nat.min_eq_right (by omega), List.drop_length, List.drop_of_length_le (by omega)]
theorem cut_take (xs : List D) (w : Nat) : Fw.cutD xs none (some (w : Int)) = xs.take w := by
  unfold Fw.cutD
  rw [HT.sIx_none, HT.sIx_nat, List.drop_zero, Nat.sub_zero, take_min]
theorem cut_drop (xs : List D) (w : Nat) : Fw.cutD xs (some (w : Int)) none = xs.drop w := by
  unfold Fw.cutD
  rw [HT.sIx_none, HT.sIx_nat, drop_min]
  apply List.take_of_length_le
  rw [List.length_drop]
  omega
theorem cut_both (xs : List D) (a b : Nat) : Fw.cutD xs (some (a : Int)) (some (b : Int)) = (xs.drop a).take (b - a) := by
  unfold Fw.cutD
  rw [HT.sIx_nat, HT.sIx_nat, drop_min]
  by_cases h : b ≤ xs.length
  · rw [Nat.min_eq_left h]
    by_cases h2 : a ≤ xs.length
    · rw [Nat.min_eq_left h2]
    · rw [List.drop_of_length_le (by omega), List.take_nil, List.take_nil]
  · rw [Nat.min_eq_right (by omega)]
    rw [List.take_of_length_le (by rw [List.length_drop]; omega), List.take_of_length_le (by rw [List.length_drop]; omega)]
theorem maxIx_nn {ns : List Int} (h : ∀ n ∈ ns, 0 ≤ n) : (maxIx ns 0 = 0 ∨ maxIx ns 0 ∈ ns) ∧ 0 ≤ maxIx ns 0 ∧ ∀ n ∈ ns, n ≤ maxIx ns 0 := by
  cases ns with
  | nil => exact ⟨.inl rfl, by rw [maxIx_nil]; omega, fun n h => nomatch h⟩
  | cons x r =>
    have e : maxI (x :: r) = some (maxIx (x :: r) 0) := rfl
    obtain ⟨h1, h2⟩ := maxI_spec e
    exact ⟨.inr h1, h _ h1, h2⟩
theorem sortI_mem {ns : List Int} {x : Int} : x ∈ sortI ns ↔ x ∈ ns := (sortI_perm ns).mem_iff
theorem sortI_len {ns : List Int} : (sortI ns).length = ns.length := (sortI_perm ns).length_eq
@[simp] theorem oSorted_lst {ns : List Int} : oSorted [.lst (ns.map .int)] = some ((sortI ns).map .int) := by
  show Option.map _ ((seqOf (.lst (ns.map .int))).bind intsOf) = _
  rw [seq_lst, Option.bind_some, intsOf_map]
  rfl
/-! == of rows -/
theorem pys_ints : ∀ ns : List Int, pys (ns.map .int) = some (ns.map PyData.int)
  | [] => rfl
  | n :: r => by
    rw [List.map_cons, pys, pys_ints r]
    rfl
theorem cl_ints : ∀ ns : List Int, PyData.canLayAll0 (ns.map PyData.int) = true
  | [] => rfl
  | n :: r => by
    rw [List.map_cons, PyData.canLayAll0, cl_ints r]
    rfl
theorem dp_ints : ∀ ns : List Int, PyData.depthAll (ns.map PyData.int) = 0
  | [] => rfl
  | n :: r => by
    rw [List.map_cons, PyData.depthAll, dp_ints r]
    rfl
theorem ev_ints : ∀ a b : List Int, PyData.eqvAll (a.map PyData.int) (b.map PyData.int) = decide (a = b)
  | [], [] => rfl
  | [], _ :: _ => rfl
  | _ :: _, [] => rfl
  | x :: a, y :: b => by
    rw [List.map_cons, List.map_cons, PyData.eqvAll, ev_ints a b, PyData.eqv]
    by_cases h : x = y
    · subst h
      simp
    · simp [h]
theorem sh_tup (ns : List Int) : SeqAt.shaped (.tuple (ns.map .int)) = true := by
  unfold SeqAt.shaped
  rw [PyData.canLay0, PyData.depth, cl_ints, dp_ints]
  rfl
theorem sh_lst (ns : List Int) : SeqAt.shaped (.list (ns.map .int)) = true := by
  unfold SeqAt.shaped
  rw [PyData.canLay0, PyData.depth, cl_ints, dp_ints]
  rfl
theorem deq_sh {d e : D} {x y : PyData} (hd : py d = some x) (he : py e = some y) (sx : SeqAt.shaped x = true) (sy : SeqAt.shaped y = true) (hk : ∀ xs, x = .tuple xs ∨ x = .list xs → True) (h : (∃ xs, x = .tuple xs) ∨ ∃ xs, x = .list xs) : deq d e = some (PyData.eqv x y) := by
  have key : ((py d).bind fun x => (py e).bind fun y => if SeqAt.shaped x = true ∧ SeqAt.shaped y = true then some (PyData.eqv x y) else none) = some (PyData.eqv x y) := by
    rw [hd, Option.bind_some, he, Option.bind_some, if_pos ⟨sx, sy⟩]
  have nd : (∀ i, d ≠ .int i) ∧ (∀ i, d ≠ .str i) ∧ (∀ i, d ≠ .bl i) ∧ d ≠ .non := by
    refine ⟨fun i e => ?_, fun i e => ?_, fun i e => ?_, fun e => ?_⟩
    all_goals
      subst e
      simp only [py, Option.some.injEq] at hd
      subst hd
      rcases h with ⟨_, h⟩ | ⟨_, h⟩ <;> cases h
  unfold deq
  split
  · exact (nd.1 _ rfl).elim
  · exact (nd.2.1 _ rfl).elim
  · exact (nd.2.2.1 _ rfl).elim
  · exact (nd.2.2.2 rfl).elim
  · exact key
theorem py_tup (ns : List Int) : py (.tup (ns.map .int)) = some (.tuple (ns.map .int)) := by rw [py, pys_ints]; rfl
theorem py_lst (ns : List Int) : py (.lst (ns.map .int)) = some (.list (ns.map .int)) := by rw [py, pys_ints]; rfl
theorem deq_tups (a b : List Int) : deq (.tup (a.map .int)) (.tup (b.map .int)) = some (decide (a = b)) := by
  rw [deq_sh (py_tup a) (py_tup b) (sh_tup a) (sh_tup b) (fun _ _ => trivial) (.inl ⟨_, rfl⟩), PyData.eqv, ev_ints]
theorem deq_lsts (a b : List Int) : deq (.lst (a.map .int)) (.lst (b.map .int)) = some (decide (a = b)) := by
  rw [deq_sh (py_lst a) (py_lst b) (sh_lst a) (sh_lst b) (fun _ _ => trivial) (.inr ⟨_, rfl⟩), PyData.eqv, ev_ints]
@[simp] theorem oEq_tups (a b : List Int) : oEq (.tup (a.map .int)) (.tup (b.map .int)) = some (.bl (decide (a = b))) := by rw [oEq, deq_tups]; rfl
@[simp] theorem oNe_tups (a b : List Int) : oNe (.tup (a.map .int)) (.tup (b.map .int)) = some (.bl (!decide (a = b))) := by rw [oNe, deq_tups]; rfl
@[simp] theorem oEq_lsts (a b : List Int) : oEq (.lst (a.map .int)) (.lst (b.map .int)) = some (.bl (decide (a = b))) := by rw [oEq, deq_lsts]; rfl
@[simp] theorem oNe_lsts (a b : List Int) : oNe (.lst (a.map .int)) (.lst (b.map .int)) = some (.bl (!decide (a = b))) := by rw [oNe, deq_lsts]; rfl
theorem cell_at (ns : List Int) (k : Int) (hk : 0 ≤ k ∧ k ≤ 100000) : ∃ c : Int, cellF [.fl (ns.map .int), .int k] = .ok (.int c) := by
  obtain ⟨n, rfl⟩ := Int.eq_ofNat_of_zero_le hk.1
  exact cell_ok ns n (by omega)
def sto (ρ : Env) (i : Nat) (k : Int) (d : D) : Cell → Out
  | .own (.lst ds) => match ixN' ds.length k with
    | some j => .nx (ρ.set i (.own (.lst (ds.set j d))))
    | none => .stuck
  | _ => .stuck
theorem sto_pos {ρ : Env} {i : Nat} {k : Int} {d : D} {ds : List D} (h : 0 ≤ k ∧ k < (ds.length : Nat)) : sto ρ i k d (.own (.lst ds)) = .nx (ρ.set i (.own (.lst (ds.set k.toNat d)))) := by
  unfold sto ixN'
  dsimp only
  rw [if_pos h.1, if_pos h.2]
@[simp] theorem sSto_x {i ix f ρ} : sSto i ix f ρ = opt (asI (ix ρ)) fun k => opt (f ρ) fun d => sto ρ i k d (cellAt ρ i) := by
  unfold sSto
  cases asI (ix ρ) with
  | none =>
    show _ = Out.stuck
    split <;> simp_all
  | some k =>
    rw [opt_some]
    cases f ρ with
    | none =>
      show _ = Out.stuck
      split <;> simp_all
    | some d =>
      rw [opt_some]
      unfold sto
      cases cellAt ρ i with
      | own o => cases o <;> rfl
      | _ => rfl
end Fw

namespace Lw
open PySem PySem.Spec PyProof.Rows L2 Fw
def top (i : Nat) : Stmt := PySem.Challenge.pw_holdsalltrees_k57_rows_and_signals.main.body.getD i (.Pass ⟨0, 0, 0, 0⟩)
structure Ks (K : PySem.W.Frag) (cl : Nat → ClsT) : Prop where
  k_Game : ClsOk K (cl 0) ["owners", "priorities", "successors", "height"]

/-! frozen -/
abbrev s_frozen : Stmt := top 2
abbrev N_frozen : List Str := ["value", "item"]
theorem sc_frozen : FnScope N_frozen ["value"] (defScope s_frozen) := ⟨rfl, rfl, rfl, by decide +kernel, rfl, by decide +kernel, by decide +kernel⟩
theorem b_frozen (r_frozen : List D → Ret) {P : Program} {wd : World} {K : PySem.W.Frag} {mg : Str → Option Value} {base : Heap} {cl : Nat → ClsT} {k : Nat} (B : Bt mg) (kk : Ks K cl) (c_frozen : Def P wd K mg base cl k "frozen" 1 r_frozen)
    {f : Addr} {cdv : Value} {A : Around} {outer : List PySem.Env} {s : Shared} {H : Hp} {E : XK} {G0 H0 : Hp} {sf : Addr} (hr : Room k (A.deeper (envOfC "frozen" (defScope s_frozen) s.heap.objs.size f cdv))) :
    VSs ⟨cl, G0, H0, sf⟩ (XX P wd K mg base N_frozen "frozen" (defScope s_frozen) f cdv A outer s H E) (defBody s_frozen) (frozenM r_frozen) := by
  have hr0 := hr
  have hu : (XX P wd K mg base N_frozen "frozen" (defScope s_frozen) f cdv A outer s H E).A.units + 64 < cLine := hr.units
  have nd : (XX P wd K mg base N_frozen "frozen" (defScope s_frozen) f cdv A outer s H E).N.Nodup := sc_frozen.nd
  have v0 : ∀ pos, PE (XX P wd K mg base N_frozen "frozen" (defScope s_frozen) f cdv A outer s H E) (.Name "value" pos) (tVar 0) := fun _ => pv 0
  exact (vss_cons (vs_if (vt_val (ve_callB call_isiD r_isi (by rfl) B.isinstance (by decide +kernel) (vo_cons (toO (ve_var (v0 _))) (vo_cons (toO (ve_tup (va_cons (ve_ty (by rfl) B.list (by decide +kernel)) (va_cons (ve_ty (by rfl) B.tuple (by decide +kernel)) va_nil)))) vo_nil))))
    (vss_one (vs_ret (ve_callTy call_tuple_of r_tuple (by rfl) B.tuple (by decide +kernel) (vo_cons (toO (ofF (vf_comp rfl nd (vi_items (ve_var (v0 _))) (blkOk_by (own := [("item", 1)]) (N := N_frozen) (sc := (defScope s_frozen)) (by decide +kernel)) rfl (fun _ _ _ _ _ => (vg_nm nd rfl (by first | exact .inl rfl | exact .inr rfl))) (fun _ _ _ _ _ => vts_nil) (fun _ _ _ _ _ => (ve_call c_frozen hr0 (by rfl) (va_cons (ve_var (pv 1)) va_nil) (alen_cons alen_nil)))))) vo_nil))))
    vss_nil)
    (vss_one (vs_ret (ve_var (v0 _)))))
theorem dd_frozen {P : Program} {wd : World} {K : PySem.W.Frag} {mg : Str → Option Value} {base : Heap} {cl : Nat → ClsT} (B : Bt mg) (kk : Ks K cl) (a_frozen : At K mg "frozen" s_frozen) : ∀ n : Nat, Def P wd K mg base cl (0 + n) "frozen" 1 (frozenF n)
  | 0 => def_stuck a_frozen (fun _ _ F => F.binds (ps := ["value"]) fun _ _ _ _ _ _ us hl => match us, hl with | [_], _ => rfl)
  | n + 1 => have ih := dd_frozen B kk a_frozen n
    def_of a_frozen sc_frozen (fun _ _ F => F.binds (ps := ["value"]) fun _ _ _ _ _ _ us hl => match us, hl with | [_], _ => rfl) fun f cdv A outer s H E G0 H0 sf hr => b_frozen _ B kk ih hr
theorem d_frozen {P : Program} {wd : World} {K : PySem.W.Frag} {mg : Str → Option Value} {base : Heap} {cl : Nat → ClsT} (B : Bt mg) (kk : Ks K cl) (a_frozen : At K mg "frozen" s_frozen) : Def P wd K mg base cl 4 "frozen" 1 (frozenF 4) := ((dd_frozen B kk a_frozen 4)).mono (by decide)

/-! Game.top -/
abbrev s_Game_top : Stmt := inClass (top 15) 3
abbrev N_Game_top : List Str := ["self"]
theorem sc_Game_top : FnScope N_Game_top ["self"] (defScope s_Game_top) := ⟨rfl, rfl, rfl, by decide +kernel, rfl, by decide +kernel, by decide +kernel⟩
theorem b_Game_top {P : Program} {wd : World} {K : PySem.W.Frag} {mg : Str → Option Value} {base : Heap} {cl : Nat → ClsT} {k : Nat} (B : Bt mg) (kk : Ks K cl)
    {f : Addr} {cdv : Value} {A : Around} {outer : List PySem.Env} {s : Shared} {H : Hp} {E : XK} {G0 H0 : Hp} {sf : Addr} (hr : Room k (A.deeper (envOfC "Game.top" (defScope s_Game_top) s.heap.objs.size f cdv))) :
    VSs ⟨cl, G0, H0, sf⟩ (XX P wd K mg base N_Game_top "Game.top" (defScope s_Game_top) f cdv A outer s H E) (defBody s_Game_top) (Game_topM) := by
  have hr0 := hr
  have hu : (XX P wd K mg base N_Game_top "Game.top" (defScope s_Game_top) f cdv A outer s H E).A.units + 64 < cLine := hr.units
  have nd : (XX P wd K mg base N_Game_top "Game.top" (defScope s_Game_top) f cdv A outer s H E).N.Nodup := sc_Game_top.nd
  have v0 : ∀ pos, PE (XX P wd K mg base N_Game_top "Game.top" (defScope s_Game_top) f cdv A outer s H E) (.Name "self" pos) (tVar 0) := fun _ => pv 0
  exact (vss_one (vs_ret (ve_maxD rfl (by rfl) B.max (toO (ve_fld kk.k_Game 1 rfl (toO (ve_var (v0 _))))))))
theorem d_Game_top {P : Program} {wd : World} {K : PySem.W.Frag} {mg : Str → Option Value} {base : Heap} {cl : Nat → ClsT} (B : Bt mg) (kk : Ks K cl) (a_Game_top : AtP K (cl 0).addr "top" "Game.top" s_Game_top) : PrD P wd K mg base cl 1 0 "top" Game_topF :=
  prop_of a_Game_top sc_Game_top rfl (fun _ _ F => F.binds (ps := ["self"]) fun _ _ _ _ _ _ us hl => match us, hl with | [_], _ => rfl) fun f cdv A outer s H E G0 H0 sf hr => b_Game_top (k := 0) B kk hr

/-! Game.ceiling -/
abbrev s_Game_ceiling : Stmt := inClass (top 15) 4
abbrev N_Game_ceiling : List Str := ["self"]
theorem sc_Game_ceiling : FnScope N_Game_ceiling ["self"] (defScope s_Game_ceiling) := ⟨rfl, rfl, rfl, by decide +kernel, rfl, by decide +kernel, by decide +kernel⟩
theorem b_Game_ceiling {P : Program} {wd : World} {K : PySem.W.Frag} {mg : Str → Option Value} {base : Heap} {cl : Nat → ClsT} {k : Nat} (B : Bt mg) (kk : Ks K cl) (c_Game_top : PrD P wd K mg base cl k 0 "top" Game_topF)
    {f : Addr} {cdv : Value} {A : Around} {outer : List PySem.Env} {s : Shared} {H : Hp} {E : XK} {G0 H0 : Hp} {sf : Addr} (hr : Room (k + 1) (A.deeper (envOfC "Game.ceiling" (defScope s_Game_ceiling) s.heap.objs.size f cdv))) :
    VSs ⟨cl, G0, H0, sf⟩ (XX P wd K mg base N_Game_ceiling "Game.ceiling" (defScope s_Game_ceiling) f cdv A outer s H E) (defBody s_Game_ceiling) (Game_ceilingM) := by
  have hr0 := hr.mono (Nat.le_succ k)
  have hu : (XX P wd K mg base N_Game_ceiling "Game.ceiling" (defScope s_Game_ceiling) f cdv A outer s H E).A.units + 64 < cLine := hr.units
  have nd : (XX P wd K mg base N_Game_ceiling "Game.ceiling" (defScope s_Game_ceiling) f cdv A outer s H E).N.Nodup := sc_Game_ceiling.nd
  have v0 : ∀ pos, PE (XX P wd K mg base N_Game_ceiling "Game.ceiling" (defScope s_Game_ceiling) f cdv A outer s H E) (.Name "self" pos) (tVar 0) := fun _ => pv 0
  exact (vss_one (vs_ret (ve_bin op_sub r_sub (toO (ve_bin op_addD r_add (toO (ve_prop c_Game_top kk.k_Game hr (toO (ve_var (v0 _))))) (toO ve_int))) (toO (ve_bin op_mod r_mod (toO (ve_prop c_Game_top kk.k_Game hr (toO (ve_var (v0 _))))) (toO ve_int))))))
theorem d_Game_ceiling {P : Program} {wd : World} {K : PySem.W.Frag} {mg : Str → Option Value} {base : Heap} {cl : Nat → ClsT} (B : Bt mg) (kk : Ks K cl) (a_Game_ceiling : AtP K (cl 0).addr "ceiling" "Game.ceiling" s_Game_ceiling) (c_Game_top : PrD P wd K mg base cl 1 0 "top" Game_topF) : PrD P wd K mg base cl 3 0 "ceiling" Game_ceilingF :=
  prop_of a_Game_ceiling sc_Game_ceiling rfl (fun _ _ F => F.binds (ps := ["self"]) fun _ _ _ _ _ _ us hl => match us, hl with | [_], _ => rfl) fun f cdv A outer s H E G0 H0 sf hr => b_Game_ceiling (k := 1) B kk (c_Game_top.mono (by decide)) hr

/-! start_row -/
abbrev s_start_row : Stmt := top 4
abbrev N_start_row : List Str := ["game", "registers", "k"]
theorem sc_start_row : FnScope N_start_row ["game", "registers"] (defScope s_start_row) := ⟨rfl, rfl, rfl, by decide +kernel, rfl, by decide +kernel, by decide +kernel⟩
def m_start_row : Sf :=
    (sRet (eArgs oTuple (aCons (fL (aComp (aRng1 (aCons (eVar 1) aNil)) (.nm 2) tYesF (eProp 0 Game_ceilingF (eVar 0)))) aNil)))
def F_start_row : List D → Ret := runF 3 m_start_row
theorem b_start_row {P : Program} {wd : World} {K : PySem.W.Frag} {mg : Str → Option Value} {base : Heap} {cl : Nat → ClsT} {k : Nat} (B : Bt mg) (kk : Ks K cl) (c_Game_ceiling : PrD P wd K mg base cl k 0 "ceiling" Game_ceilingF)
    {f : Addr} {cdv : Value} {A : Around} {outer : List PySem.Env} {s : Shared} {H : Hp} {E : XK} {G0 H0 : Hp} {sf : Addr} (hr : Room (k + 1) (A.deeper (envOfC "start_row" (defScope s_start_row) s.heap.objs.size f cdv))) :
    VSs ⟨cl, G0, H0, sf⟩ (XX P wd K mg base N_start_row "start_row" (defScope s_start_row) f cdv A outer s H E) (defBody s_start_row) (m_start_row) := by
  have hr0 := hr.mono (Nat.le_succ k)
  have hu : (XX P wd K mg base N_start_row "start_row" (defScope s_start_row) f cdv A outer s H E).A.units + 64 < cLine := hr.units
  have nd : (XX P wd K mg base N_start_row "start_row" (defScope s_start_row) f cdv A outer s H E).N.Nodup := sc_start_row.nd
  have v1 : ∀ pos, PE (XX P wd K mg base N_start_row "start_row" (defScope s_start_row) f cdv A outer s H E) (.Name "registers" pos) (tVar 1) := fun _ => pv 1
  exact (vss_one (vs_ret (ve_callTy call_tuple_of r_tuple (by rfl) B.tuple (by decide +kernel) (vo_cons (toO (ofF (vf_comp rfl nd (vi_range1 (by rfl) B.range (vo_cons (toO (ve_var (v1 _))) vo_nil)) (blkOk_by (own := [("k", 2)]) (N := N_start_row) (sc := (defScope s_start_row)) (by decide +kernel)) rfl (fun _ _ _ _ _ => (vg_nm nd rfl (by first | exact .inl rfl | exact .inr rfl))) (fun _ _ _ _ _ => vts_nil) (fun _ _ _ _ _ => (ve_prop c_Game_ceiling kk.k_Game hr (toO (ve_var (pv 0)))))))) vo_nil))))
theorem d_start_row {P : Program} {wd : World} {K : PySem.W.Frag} {mg : Str → Option Value} {base : Heap} {cl : Nat → ClsT} (B : Bt mg) (kk : Ks K cl) (a_start_row : At K mg "start_row" s_start_row) (c_Game_ceiling : PrD P wd K mg base cl 3 0 "ceiling" Game_ceilingF) : Def P wd K mg base cl 5 "start_row" 2 F_start_row :=
  def_of a_start_row sc_start_row (fun _ _ F => F.binds (ps := ["game", "registers"]) fun _ _ _ _ _ _ us hl => match us, hl with | [_, _], _ => rfl) fun f cdv A outer s H E G0 H0 sf hr => b_start_row (k := 3) B kk (c_Game_ceiling.mono (by decide)) hr

/-! raised -/
abbrev s_raised : Stmt := top 5
abbrev N_raised : List Str := ["row", "priority", "number"]
theorem sc_raised : FnScope N_raised ["row", "priority"] (defScope s_raised) := ⟨rfl, rfl, rfl, by decide +kernel, rfl, by decide +kernel, by decide +kernel⟩
def m_raised : Sf :=
    (sRet (eArgs oTuple (aCons (fL (aComp (aItems (eVar 0)) (.nm 2) tYesF (eArgs oMax2 (aCons (eVar 2) (aCons (eVar 1) aNil))))) aNil)))
def F_raised : List D → Ret := runF 3 m_raised
theorem b_raised {P : Program} {wd : World} {K : PySem.W.Frag} {mg : Str → Option Value} {base : Heap} {cl : Nat → ClsT} {k : Nat} (B : Bt mg) (kk : Ks K cl)
    {f : Addr} {cdv : Value} {A : Around} {outer : List PySem.Env} {s : Shared} {H : Hp} {E : XK} {G0 H0 : Hp} {sf : Addr} (hr : Room k (A.deeper (envOfC "raised" (defScope s_raised) s.heap.objs.size f cdv))) :
    VSs ⟨cl, G0, H0, sf⟩ (XX P wd K mg base N_raised "raised" (defScope s_raised) f cdv A outer s H E) (defBody s_raised) (m_raised) := by
  have hr0 := hr
  have hu : (XX P wd K mg base N_raised "raised" (defScope s_raised) f cdv A outer s H E).A.units + 64 < cLine := hr.units
  have nd : (XX P wd K mg base N_raised "raised" (defScope s_raised) f cdv A outer s H E).N.Nodup := sc_raised.nd
  have v0 : ∀ pos, PE (XX P wd K mg base N_raised "raised" (defScope s_raised) f cdv A outer s H E) (.Name "row" pos) (tVar 0) := fun _ => pv 0
  exact (vss_one (vs_ret (ve_callTy call_tuple_of r_tuple (by rfl) B.tuple (by decide +kernel) (vo_cons (toO (ofF (vf_comp rfl nd (vi_items (ve_var (v0 _))) (blkOk_by (own := [("number", 2)]) (N := N_raised) (sc := (defScope s_raised)) (by decide +kernel)) rfl (fun _ _ _ _ _ => (vg_nm nd rfl (by first | exact .inl rfl | exact .inr rfl))) (fun _ _ _ _ _ => vts_nil) (fun _ _ _ _ _ => (ve_callB (call_max2 rfl) r_max2 (by rfl) B.max (by decide +kernel) (vo_cons (toO (ve_var (pv 2))) (vo_cons (toO (ve_var (pv 1))) vo_nil))))))) vo_nil))))
theorem d_raised {P : Program} {wd : World} {K : PySem.W.Frag} {mg : Str → Option Value} {base : Heap} {cl : Nat → ClsT} (B : Bt mg) (kk : Ks K cl) (a_raised : At K mg "raised" s_raised) : Def P wd K mg base cl 1 "raised" 2 F_raised :=
  def_of a_raised sc_raised (fun _ _ F => F.binds (ps := ["row", "priority"]) fun _ _ _ _ _ _ us hl => match us, hl with | [_, _], _ => rfl) fun f cdv A outer s H E G0 H0 sf hr => b_raised (k := 0) B kk hr

/-! emptied -/
abbrev s_emptied : Stmt := top 6
abbrev N_emptied : List Str := ["row", "which", "priority", "held"]
theorem sc_emptied : FnScope N_emptied ["row", "which", "priority"] (defScope s_emptied) := ⟨rfl, rfl, rfl, by decide +kernel, rfl, by decide +kernel, by decide +kernel⟩
def m_emptied : Sf :=
    (sSeq (sSet 3 (eCall (frozenF 4) (aCons (eVar 0) aNil)))
    (sRet (eTup (aCons (eBin oIx (eVar 3) (eBin oSub (eVar 1) (eC (.int 1)))) (aCons (eBin oAdd (eBin oAdd (eTup (aCons (eVar 2) aNil)) (eSlA (eVar 3) pNo (pSome (eBin oSub (eVar 1) (eC (.int 1)))))) (eSlA (eVar 3) (pSome (eVar 1)) pNo)) aNil)))))
def F_emptied : List D → Ret := runF 4 m_emptied
theorem b_emptied {P : Program} {wd : World} {K : PySem.W.Frag} {mg : Str → Option Value} {base : Heap} {cl : Nat → ClsT} {k : Nat} (B : Bt mg) (kk : Ks K cl) (c_frozen : Def P wd K mg base cl k "frozen" 1 (frozenF 4))
    {f : Addr} {cdv : Value} {A : Around} {outer : List PySem.Env} {s : Shared} {H : Hp} {E : XK} {G0 H0 : Hp} {sf : Addr} (hr : Room k (A.deeper (envOfC "emptied" (defScope s_emptied) s.heap.objs.size f cdv))) :
    VSs ⟨cl, G0, H0, sf⟩ (XX P wd K mg base N_emptied "emptied" (defScope s_emptied) f cdv A outer s H E) (defBody s_emptied) (m_emptied) := by
  have hr0 := hr
  have hu : (XX P wd K mg base N_emptied "emptied" (defScope s_emptied) f cdv A outer s H E).A.units + 64 < cLine := hr.units
  have nd : (XX P wd K mg base N_emptied "emptied" (defScope s_emptied) f cdv A outer s H E).N.Nodup := sc_emptied.nd
  have v0 : ∀ pos, PE (XX P wd K mg base N_emptied "emptied" (defScope s_emptied) f cdv A outer s H E) (.Name "row" pos) (tVar 0) := fun _ => pv 0
  have v1 : ∀ pos, PE (XX P wd K mg base N_emptied "emptied" (defScope s_emptied) f cdv A outer s H E) (.Name "which" pos) (tVar 1) := fun _ => pv 1
  have v2 : ∀ pos, PE (XX P wd K mg base N_emptied "emptied" (defScope s_emptied) f cdv A outer s H E) (.Name "priority" pos) (tVar 2) := fun _ => pv 2
  have v3 : ∀ pos, PE (XX P wd K mg base N_emptied "emptied" (defScope s_emptied) f cdv A outer s H E) (.Name "held" pos) (tVar 3) := fun _ => pv 3
  exact (vss_cons (vs_set nd rfl (.inl rfl) (ve_call c_frozen hr0 (by rfl) (va_cons (ve_var (v0 _)) va_nil) (alen_cons alen_nil)))
    (vss_one (vs_ret (ve_tup (va_cons (ve_ix (toO (ve_var (v3 _))) (toO (ve_bin op_sub r_sub (toO (ve_var (v1 _))) (toO ve_int))) (fun _ _ => rfl)) (va_cons (ve_bin op_addD r_add (toO (ve_bin op_addD r_add (toO (ve_tup (va_cons (ve_var (v2 _)) va_nil))) (toO (ve_slA (toO (ve_var (v3 _))) vp_no (vp_some (toO (ve_bin op_sub r_sub (toO (ve_var (v1 _))) (toO ve_int)))))))) (toO (ve_slA (toO (ve_var (v3 _))) (vp_some (toO (ve_var (v1 _)))) vp_no))) va_nil))))))
theorem d_emptied {P : Program} {wd : World} {K : PySem.W.Frag} {mg : Str → Option Value} {base : Heap} {cl : Nat → ClsT} (B : Bt mg) (kk : Ks K cl) (a_emptied : At K mg "emptied" s_emptied) (c_frozen : Def P wd K mg base cl 4 "frozen" 1 (frozenF 4)) : Def P wd K mg base cl 5 "emptied" 3 F_emptied :=
  def_of a_emptied sc_emptied (fun _ _ F => F.binds (ps := ["row", "which", "priority"]) fun _ _ _ _ _ _ us hl => match us, hl with | [_, _, _], _ => rfl) fun f cdv A outer s H E G0 H0 sf hr => b_emptied (k := 4) B kk (c_frozen.mono (by decide)) hr

/-! signal -/
abbrev s_signal : Stmt := top 7
abbrev N_signal : List Str := ["which", "value"]
theorem sc_signal : FnScope N_signal ["which", "value"] (defScope s_signal) := ⟨rfl, rfl, rfl, by decide +kernel, rfl, by decide +kernel, by decide +kernel⟩
def m_signal : Sf :=
    (sSeq (sIf (tB1 (eBin oEq (eVar 0) (eC (.int 0))))
    (sRet (eC (.int 1)))
    sNext)
    (sRet (eBin oAdd (eBin oMul (eC (.int 2)) (eVar 0)) (eBin oMod (eVar 1) (eC (.int 2))))))
def F_signal : List D → Ret := runF 2 m_signal
theorem b_signal {P : Program} {wd : World} {K : PySem.W.Frag} {mg : Str → Option Value} {base : Heap} {cl : Nat → ClsT} {k : Nat} (B : Bt mg) (kk : Ks K cl)
    {f : Addr} {cdv : Value} {A : Around} {outer : List PySem.Env} {s : Shared} {H : Hp} {E : XK} {G0 H0 : Hp} {sf : Addr} (hr : Room k (A.deeper (envOfC "signal" (defScope s_signal) s.heap.objs.size f cdv))) :
    VSs ⟨cl, G0, H0, sf⟩ (XX P wd K mg base N_signal "signal" (defScope s_signal) f cdv A outer s H E) (defBody s_signal) (m_signal) := by
  have hr0 := hr
  have hu : (XX P wd K mg base N_signal "signal" (defScope s_signal) f cdv A outer s H E).A.units + 64 < cLine := hr.units
  have nd : (XX P wd K mg base N_signal "signal" (defScope s_signal) f cdv A outer s H E).N.Nodup := sc_signal.nd
  have v0 : ∀ pos, PE (XX P wd K mg base N_signal "signal" (defScope s_signal) f cdv A outer s H E) (.Name "which" pos) (tVar 0) := fun _ => pv 0
  have v1 : ∀ pos, PE (XX P wd K mg base N_signal "signal" (defScope s_signal) f cdv A outer s H E) (.Name "value" pos) (tVar 1) := fun _ => pv 1
  exact (vss_cons (vs_if (vt_cmp (op_eqB hu) r_eq (toO (ve_var (v0 _))) (toO ve_int) (nomark _))
    (vss_one (vs_ret ve_int))
    vss_nil)
    (vss_one (vs_ret (ve_bin op_addD r_add (toO (ve_bin op_mulD r_mul (toO ve_int) (toO (ve_var (v0 _))))) (toO (ve_bin op_mod r_mod (toO (ve_var (v1 _))) (toO ve_int)))))))
theorem d_signal {P : Program} {wd : World} {K : PySem.W.Frag} {mg : Str → Option Value} {base : Heap} {cl : Nat → ClsT} (B : Bt mg) (kk : Ks K cl) (a_signal : At K mg "signal" s_signal) : Def P wd K mg base cl 1 "signal" 2 F_signal :=
  def_of a_signal sc_signal (fun _ _ F => F.binds (ps := ["which", "value"]) fun _ _ _ _ _ _ us hl => match us, hl with | [_, _], _ => rfl) fun f cdv A outer s H E G0 H0 sf hr => b_signal (k := 0) B kk hr

/-! is_number -/
abbrev s_is_number : Stmt := top 12
abbrev N_is_number : List Str := ["value"]
theorem sc_is_number : FnScope N_is_number ["value"] (defScope s_is_number) := ⟨rfl, rfl, rfl, by decide +kernel, rfl, by decide +kernel, by decide +kernel⟩
theorem b_is_number {P : Program} {wd : World} {K : PySem.W.Frag} {mg : Str → Option Value} {base : Heap} {cl : Nat → ClsT} {k : Nat} (B : Bt mg) (kk : Ks K cl)
    {f : Addr} {cdv : Value} {A : Around} {outer : List PySem.Env} {s : Shared} {H : Hp} {E : XK} {G0 H0 : Hp} {sf : Addr} (hr : Room k (A.deeper (envOfC "is_number" (defScope s_is_number) s.heap.objs.size f cdv))) :
    VSs ⟨cl, G0, H0, sf⟩ (XX P wd K mg base N_is_number "is_number" (defScope s_is_number) f cdv A outer s H E) (defBody s_is_number) (is_numberM) := by
  have hr0 := hr
  have hu : (XX P wd K mg base N_is_number "is_number" (defScope s_is_number) f cdv A outer s H E).A.units + 64 < cLine := hr.units
  have nd : (XX P wd K mg base N_is_number "is_number" (defScope s_is_number) f cdv A outer s H E).N.Nodup := sc_is_number.nd
  have v0 : ∀ pos, PE (XX P wd K mg base N_is_number "is_number" (defScope s_is_number) f cdv A outer s H E) (.Name "value" pos) (tVar 0) := fun _ => pv 0
  exact (vss_one (vs_ret (ve_and (ve_callB call_isiD r_isi (by rfl) B.isinstance (by decide +kernel) (vo_cons (toO (ve_var (v0 _))) (vo_cons (toO (ve_ty (by rfl) B.int (by decide +kernel))) vo_nil))) (ve_one (ve_not (ve_callB call_isiD r_isi (by rfl) B.isinstance (by decide +kernel) (vo_cons (toO (ve_var (v0 _))) (vo_cons (toO (ve_ty (by rfl) B.bool (by decide +kernel))) vo_nil))))))))
theorem d_is_number {P : Program} {wd : World} {K : PySem.W.Frag} {mg : Str → Option Value} {base : Heap} {cl : Nat → ClsT} (B : Bt mg) (kk : Ks K cl) (a_is_number : At K mg "is_number" s_is_number) : Def P wd K mg base cl 1 "is_number" 1 is_numberF :=
  def_of a_is_number sc_is_number (fun _ _ F => F.binds (ps := ["value"]) fun _ _ _ _ _ _ us hl => match us, hl with | [_], _ => rfl) fun f cdv A outer s H E G0 H0 sf hr => b_is_number (k := 0) B kk hr

/-! is_between -/
abbrev s_is_between : Stmt := top 13
abbrev N_is_between : List Str := ["value", "least", "greatest"]
theorem sc_is_between : FnScope N_is_between ["value", "least", "greatest"] (defScope s_is_between) := ⟨rfl, rfl, rfl, by decide +kernel, rfl, by decide +kernel, by decide +kernel⟩
theorem b_is_between {P : Program} {wd : World} {K : PySem.W.Frag} {mg : Str → Option Value} {base : Heap} {cl : Nat → ClsT} {k : Nat} (B : Bt mg) (kk : Ks K cl) (c_is_number : Def P wd K mg base cl k "is_number" 1 is_numberF)
    {f : Addr} {cdv : Value} {A : Around} {outer : List PySem.Env} {s : Shared} {H : Hp} {E : XK} {G0 H0 : Hp} {sf : Addr} (hr : Room k (A.deeper (envOfC "is_between" (defScope s_is_between) s.heap.objs.size f cdv))) :
    VSs ⟨cl, G0, H0, sf⟩ (XX P wd K mg base N_is_between "is_between" (defScope s_is_between) f cdv A outer s H E) (defBody s_is_between) (is_betweenM) := by
  have hr0 := hr
  have hu : (XX P wd K mg base N_is_between "is_between" (defScope s_is_between) f cdv A outer s H E).A.units + 64 < cLine := hr.units
  have nd : (XX P wd K mg base N_is_between "is_between" (defScope s_is_between) f cdv A outer s H E).N.Nodup := sc_is_between.nd
  have v0 : ∀ pos, PE (XX P wd K mg base N_is_between "is_between" (defScope s_is_between) f cdv A outer s H E) (.Name "value" pos) (tVar 0) := fun _ => pv 0
  have v1 : ∀ pos, PE (XX P wd K mg base N_is_between "is_between" (defScope s_is_between) f cdv A outer s H E) (.Name "least" pos) (tVar 1) := fun _ => pv 1
  have v2 : ∀ pos, PE (XX P wd K mg base N_is_between "is_between" (defScope s_is_between) f cdv A outer s H E) (.Name "greatest" pos) (tVar 2) := fun _ => pv 2
  exact (vss_one (vs_ret (ve_and (ve_call c_is_number hr0 (by rfl) (va_cons (ve_var (v0 _)) va_nil) (alen_cons alen_nil)) (ve_one (ve_chain op_le op_le r_cmp r_cmp (toO (ve_var (v1 _))) (toO (ve_var (v0 _))) (toO (ve_var (v2 _))))))))
theorem d_is_between {P : Program} {wd : World} {K : PySem.W.Frag} {mg : Str → Option Value} {base : Heap} {cl : Nat → ClsT} (B : Bt mg) (kk : Ks K cl) (a_is_between : At K mg "is_between" s_is_between) (c_is_number : Def P wd K mg base cl 1 "is_number" 1 is_numberF) : Def P wd K mg base cl 2 "is_between" 3 is_betweenF :=
  def_of a_is_between sc_is_between (fun _ _ F => F.binds (ps := ["value", "least", "greatest"]) fun _ _ _ _ _ _ us hl => match us, hl with | [_, _, _], _ => rfl) fun f cdv A outer s H E G0 H0 sf hr => b_is_between (k := 1) B kk (c_is_number.mono (by decide)) hr

/-! is_successor_row -/
abbrev s_is_successor_row : Stmt := top 14
abbrev N_is_successor_row : List Str := ["row", "count", "before", "vertex"]
theorem sc_is_successor_row : FnScope N_is_successor_row ["row", "count"] (defScope s_is_successor_row) := ⟨rfl, rfl, rfl, by decide +kernel, rfl, by decide +kernel, by decide +kernel⟩
theorem b_is_successor_row {P : Program} {wd : World} {K : PySem.W.Frag} {mg : Str → Option Value} {base : Heap} {cl : Nat → ClsT} {k : Nat} (B : Bt mg) (kk : Ks K cl) (c_is_between : Def P wd K mg base cl k "is_between" 3 is_betweenF)
    {f : Addr} {cdv : Value} {A : Around} {outer : List PySem.Env} {s : Shared} {H : Hp} {E : XK} {G0 H0 : Hp} {sf : Addr} (hr : Room k (A.deeper (envOfC "is_successor_row" (defScope s_is_successor_row) s.heap.objs.size f cdv))) :
    VSs ⟨cl, G0, H0, sf⟩ (XX P wd K mg base N_is_successor_row "is_successor_row" (defScope s_is_successor_row) f cdv A outer s H E) (defBody s_is_successor_row) (is_successor_rowM) := by
  have hr0 := hr
  have hu : (XX P wd K mg base N_is_successor_row "is_successor_row" (defScope s_is_successor_row) f cdv A outer s H E).A.units + 64 < cLine := hr.units
  have nd : (XX P wd K mg base N_is_successor_row "is_successor_row" (defScope s_is_successor_row) f cdv A outer s H E).N.Nodup := sc_is_successor_row.nd
  have v0 : ∀ pos, PE (XX P wd K mg base N_is_successor_row "is_successor_row" (defScope s_is_successor_row) f cdv A outer s H E) (.Name "row" pos) (tVar 0) := fun _ => pv 0
  have v1 : ∀ pos, PE (XX P wd K mg base N_is_successor_row "is_successor_row" (defScope s_is_successor_row) f cdv A outer s H E) (.Name "count" pos) (tVar 1) := fun _ => pv 1
  have v2 : ∀ pos, PE (XX P wd K mg base N_is_successor_row "is_successor_row" (defScope s_is_successor_row) f cdv A outer s H E) (.Name "before" pos) (tVar 2) := fun _ => pv 2
  have v3 : ∀ pos, PE (XX P wd K mg base N_is_successor_row "is_successor_row" (defScope s_is_successor_row) f cdv A outer s H E) (.Name "vertex" pos) (tVar 3) := fun _ => pv 3
  exact (vss_cons (vs_if (vt_not (vt_val (ve_callB call_isiD r_isi (by rfl) B.isinstance (by decide +kernel) (vo_cons (toO (ve_var (v0 _))) (vo_cons (toO (ve_ty (by rfl) B.tuple (by decide +kernel))) vo_nil)))))
    (vss_one (vs_ret ve_bl))
    vss_nil)
    (vss_cons (vs_set nd rfl (.inl rfl) (ve_neg (toO ve_int)))
    (vss_cons (vs_for PassesOwn.never rfl (vi_items (ve_var (v0 _))) (vg_nm nd rfl (.inl rfl))
    (vss_cons (vs_if (vt_not (vt_val (ve_call c_is_between hr0 (by rfl) (va_cons (ve_var (v3 _)) (va_cons (ve_bin op_addD r_add (toO (ve_var (v2 _))) (toO ve_int)) (va_cons (ve_bin op_sub r_sub (toO (ve_var (v1 _))) (toO ve_int)) va_nil))) (alen_cons (alen_cons (alen_cons alen_nil))))))
    (vss_one (vs_ret ve_bl))
    vss_nil)
    (vss_one (vs_set nd rfl (.inl rfl) (ve_var (v3 _))))))
    (vss_one (vs_ret (ve_cmp op_gt r_cmp (toO (ve_callB call_len r_len (by rfl) B.len (by decide +kernel) (vo_cons (toO (ve_var (v0 _))) vo_nil))) (toO ve_int) (nomark _)))))))
theorem d_is_successor_row {P : Program} {wd : World} {K : PySem.W.Frag} {mg : Str → Option Value} {base : Heap} {cl : Nat → ClsT} (B : Bt mg) (kk : Ks K cl) (a_is_successor_row : At K mg "is_successor_row" s_is_successor_row) (c_is_between : Def P wd K mg base cl 2 "is_between" 3 is_betweenF) : Def P wd K mg base cl 3 "is_successor_row" 2 is_successor_rowF :=
  def_of a_is_successor_row sc_is_successor_row (fun _ _ F => F.binds (ps := ["row", "count"]) fun _ _ _ _ _ _ us hl => match us, hl with | [_, _], _ => rfl) fun f cdv A outer s H E G0 H0 sf hr => b_is_successor_row (k := 2) B kk (c_is_between.mono (by decide)) hr

/-! Game.__init__ -/
abbrev s_Game_init : Stmt := inClass (top 15) 0
abbrev N_Game_init : List Str := ["self", "owners", "priorities", "successors", "count", "vertex", "good"]
theorem sc_Game_init : FnScope N_Game_init ["self", "owners", "priorities", "successors"] (defScope s_Game_init) := ⟨rfl, rfl, rfl, by decide +kernel, rfl, by decide +kernel, by decide +kernel⟩
theorem b_Game_init {P : Program} {wd : World} {K : PySem.W.Frag} {mg : Str → Option Value} {base : Heap} {cl : Nat → ClsT} {k : Nat} (B : Bt mg) (kk : Ks K cl) (c_frozen : Def P wd K mg base cl k "frozen" 1 (frozenF 4)) (c_is_between : Def P wd K mg base cl k "is_between" 3 is_betweenF) (c_is_successor_row : Def P wd K mg base cl k "is_successor_row" 2 is_successor_rowF) (c_Game_top : PrD P wd K mg base cl k 0 "top" Game_topF)
    {f : Addr} {cdv : Value} {A : Around} {outer : List PySem.Env} {s : Shared} {H : Hp} {E : XK} {G0 H0 : Hp} {sf : Addr} (hr : Room (k + 1) (A.deeper (envOfC "Game.__init__" (defScope s_Game_init) s.heap.objs.size f cdv))) :
    VSs ⟨cl, G0, H0, sf⟩ (XX P wd K mg base N_Game_init "Game.__init__" (defScope s_Game_init) f cdv A outer s H E) (defBody s_Game_init) (Game_initM) := by
  have hr0 := hr.mono (Nat.le_succ k)
  have hu : (XX P wd K mg base N_Game_init "Game.__init__" (defScope s_Game_init) f cdv A outer s H E).A.units + 64 < cLine := hr.units
  have nd : (XX P wd K mg base N_Game_init "Game.__init__" (defScope s_Game_init) f cdv A outer s H E).N.Nodup := sc_Game_init.nd
  have v0 : ∀ pos, PE (XX P wd K mg base N_Game_init "Game.__init__" (defScope s_Game_init) f cdv A outer s H E) (.Name "self" pos) (tVar 0) := fun _ => pv 0
  have v1 : ∀ pos, PE (XX P wd K mg base N_Game_init "Game.__init__" (defScope s_Game_init) f cdv A outer s H E) (.Name "owners" pos) (tVar 1) := fun _ => pv 1
  have v2 : ∀ pos, PE (XX P wd K mg base N_Game_init "Game.__init__" (defScope s_Game_init) f cdv A outer s H E) (.Name "priorities" pos) (tVar 2) := fun _ => pv 2
  have v3 : ∀ pos, PE (XX P wd K mg base N_Game_init "Game.__init__" (defScope s_Game_init) f cdv A outer s H E) (.Name "successors" pos) (tVar 3) := fun _ => pv 3
  have v4 : ∀ pos, PE (XX P wd K mg base N_Game_init "Game.__init__" (defScope s_Game_init) f cdv A outer s H E) (.Name "count" pos) (tVar 4) := fun _ => pv 4
  have v5 : ∀ pos, PE (XX P wd K mg base N_Game_init "Game.__init__" (defScope s_Game_init) f cdv A outer s H E) (.Name "vertex" pos) (tVar 5) := fun _ => pv 5
  have v6 : ∀ pos, PE (XX P wd K mg base N_Game_init "Game.__init__" (defScope s_Game_init) f cdv A outer s H E) (.Name "good" pos) (tVar 6) := fun _ => pv 6
  exact (vss_cons (vs_fst kk.k_Game 0 rfl (v0 _) (ve_call c_frozen hr0 (by rfl) (va_cons (ve_var (v1 _)) va_nil) (alen_cons alen_nil)))
    (vss_cons (vs_fst kk.k_Game 1 rfl (v0 _) (ve_call c_frozen hr0 (by rfl) (va_cons (ve_var (v2 _)) va_nil) (alen_cons alen_nil)))
    (vss_cons (vs_fst kk.k_Game 2 rfl (v0 _) (ve_call c_frozen hr0 (by rfl) (va_cons (ve_var (v3 _)) va_nil) (alen_cons alen_nil)))
    (vss_cons (vs_set nd rfl (.inl rfl) (ve_callB call_len r_len (by rfl) B.len (by decide +kernel) (vo_cons (toO (ve_fld kk.k_Game 0 rfl (vo_var (v0 _)))) vo_nil)))
    (vss_cons (vs_for PassesOwn.never rfl (vi_range1 (by rfl) B.range (vo_cons (toO (ve_var (v4 _))) vo_nil)) (vg_nm nd rfl (.inl rfl))
    (vss_cons (vs_set nd rfl (.inl rfl) (ve_and (ve_call c_is_between hr0 (by rfl) (va_cons (ve_ix (toO (ve_fld kk.k_Game 0 rfl (vo_var (v0 _)))) (toO (ve_var (v5 _))) (fun _ _ => rfl)) (va_cons ve_int (va_cons ve_int va_nil))) (alen_cons (alen_cons (alen_cons alen_nil)))) (ve_one (ve_call c_is_between hr0 (by rfl) (va_cons (ve_ix (toO (ve_fld kk.k_Game 1 rfl (vo_var (v0 _)))) (toO (ve_var (v5 _))) (fun _ _ => rfl)) (va_cons ve_int (va_cons ve_int va_nil))) (alen_cons (alen_cons (alen_cons alen_nil)))))))
    (vss_one (vs_if (vt_w (vw_or (vt_not (vt_val (ve_var (v6 _)))) (vw_or1 (vt_not (vt_val (ve_call c_is_successor_row hr0 (by rfl) (va_cons (ve_ix (toO (ve_fld kk.k_Game 2 rfl (vo_var (v0 _)))) (toO (ve_var (v5 _))) (fun _ _ => rfl)) (va_cons (ve_var (v4 _)) va_nil)) (alen_cons (alen_cons alen_nil))))))))
    (vss_one vs_never)
    vss_nil))))
    (vss_one (vs_fst kk.k_Game 3 rfl (v0 _) (ve_bin op_fdiv r_fdiv (toO (ve_bin op_addD r_add (toO (ve_prop c_Game_top kk.k_Game hr (vo_var (v0 _)))) (toO ve_int))) (toO ve_int)))))))))
theorem d_Game_init {P : Program} {wd : World} {K : PySem.W.Frag} {mg : Str → Option Value} {base : Heap} {cl : Nat → ClsT} (B : Bt mg) (kk : Ks K cl) (a_Game_init : AtI K mg (cl 0).addr "Game" "Game.__init__" s_Game_init) (c_frozen : Def P wd K mg base cl 4 "frozen" 1 (frozenF 4)) (c_is_between : Def P wd K mg base cl 2 "is_between" 3 is_betweenF) (c_is_successor_row : Def P wd K mg base cl 3 "is_successor_row" 2 is_successor_rowF) (c_Game_top : PrD P wd K mg base cl 1 0 "top" Game_topF) : MkD P wd K mg base cl 6 0 "Game" 3 Game_initF :=
  mk_of a_Game_init sc_Game_init (by decide) (fun _ _ F => F.binds (ps := ["self", "owners", "priorities", "successors"]) fun _ _ _ _ _ _ us hl => match us, hl with | [_, _, _, _], _ => rfl) fun f cdv A outer s H E G0 H0 sf hr => b_Game_init (k := 4) B kk (c_frozen.mono (by decide)) (c_is_between.mono (by decide)) (c_is_successor_row.mono (by decide)) (c_Game_top.mono (by decide)) hr

/-! _law_whole -/
abbrev s_law_whole : Stmt := top 17
abbrev N_law_whole : List Str := ["value"]
theorem sc_law_whole : FnScope N_law_whole ["value"] (defScope s_law_whole) := ⟨rfl, rfl, rfl, by decide +kernel, rfl, by decide +kernel, by decide +kernel⟩
theorem b_law_whole {P : Program} {wd : World} {K : PySem.W.Frag} {mg : Str → Option Value} {base : Heap} {cl : Nat → ClsT} {k : Nat} (B : Bt mg) (kk : Ks K cl)
    {f : Addr} {cdv : Value} {A : Around} {outer : List PySem.Env} {s : Shared} {H : Hp} {E : XK} {G0 H0 : Hp} {sf : Addr} (hr : Room k (A.deeper (envOfC "_law_whole" (defScope s_law_whole) s.heap.objs.size f cdv))) :
    VSs ⟨cl, G0, H0, sf⟩ (XX P wd K mg base N_law_whole "_law_whole" (defScope s_law_whole) f cdv A outer s H E) (defBody s_law_whole) (m_whole) := by
  have hr0 := hr
  have hu : (XX P wd K mg base N_law_whole "_law_whole" (defScope s_law_whole) f cdv A outer s H E).A.units + 64 < cLine := hr.units
  have nd : (XX P wd K mg base N_law_whole "_law_whole" (defScope s_law_whole) f cdv A outer s H E).N.Nodup := sc_law_whole.nd
  have v0 : ∀ pos, PE (XX P wd K mg base N_law_whole "_law_whole" (defScope s_law_whole) f cdv A outer s H E) (.Name "value" pos) (tVar 0) := fun _ => pv 0
  exact (vss_one (vs_ret (ve_and (ve_callB call_isiD r_isi (by rfl) B.isinstance (by decide +kernel) (vo_cons (toO (ve_var (v0 _))) (vo_cons (toO (ve_ty (by rfl) B.int (by decide +kernel))) vo_nil))) (ve_one (ve_not (ve_callB call_isiD r_isi (by rfl) B.isinstance (by decide +kernel) (vo_cons (toO (ve_var (v0 _))) (vo_cons (toO (ve_ty (by rfl) B.bool (by decide +kernel))) vo_nil))))))))
theorem d_law_whole {P : Program} {wd : World} {K : PySem.W.Frag} {mg : Str → Option Value} {base : Heap} {cl : Nat → ClsT} (B : Bt mg) (kk : Ks K cl) (a_law_whole : At K mg "_law_whole" s_law_whole) : Def P wd K mg base cl 1 "_law_whole" 1 wholeF :=
  def_of a_law_whole sc_law_whole (fun _ _ F => F.binds (ps := ["value"]) fun _ _ _ _ _ _ us hl => match us, hl with | [_], _ => rfl) fun f cdv A outer s H E G0 H0 sf hr => b_law_whole (k := 0) B kk hr

/-! _law_cell -/
abbrev s_law_cell : Stmt := top 18
abbrev N_law_cell : List Str := ["script", "k", "seed", "cell"]
theorem sc_law_cell : FnScope N_law_cell ["script", "k"] (defScope s_law_cell) := ⟨rfl, rfl, rfl, by decide +kernel, rfl, by decide +kernel, by decide +kernel⟩
theorem b_law_cell {P : Program} {wd : World} {K : PySem.W.Frag} {mg : Str → Option Value} {base : Heap} {cl : Nat → ClsT} {k : Nat} (B : Bt mg) (kk : Ks K cl)
    {f : Addr} {cdv : Value} {A : Around} {outer : List PySem.Env} {s : Shared} {H : Hp} {E : XK} {G0 H0 : Hp} {sf : Addr} (hr : Room k (A.deeper (envOfC "_law_cell" (defScope s_law_cell) s.heap.objs.size f cdv))) :
    VSs ⟨cl, G0, H0, sf⟩ (XX P wd K mg base N_law_cell "_law_cell" (defScope s_law_cell) f cdv A outer s H E) (defBody s_law_cell) (m_cell) := by
  have hr0 := hr
  have hu : (XX P wd K mg base N_law_cell "_law_cell" (defScope s_law_cell) f cdv A outer s H E).A.units + 64 < cLine := hr.units
  have nd : (XX P wd K mg base N_law_cell "_law_cell" (defScope s_law_cell) f cdv A outer s H E).N.Nodup := sc_law_cell.nd
  have v0 : ∀ pos, PE (XX P wd K mg base N_law_cell "_law_cell" (defScope s_law_cell) f cdv A outer s H E) (.Name "script" pos) (tVar 0) := fun _ => pv 0
  have v1 : ∀ pos, PE (XX P wd K mg base N_law_cell "_law_cell" (defScope s_law_cell) f cdv A outer s H E) (.Name "k" pos) (tVar 1) := fun _ => pv 1
  have v2 : ∀ pos, PE (XX P wd K mg base N_law_cell "_law_cell" (defScope s_law_cell) f cdv A outer s H E) (.Name "seed" pos) (tVar 2) := fun _ => pv 2
  have v3 : ∀ pos, PE (XX P wd K mg base N_law_cell "_law_cell" (defScope s_law_cell) f cdv A outer s H E) (.Name "cell" pos) (tVar 3) := fun _ => pv 3
  exact (vss_cons (vs_if (vt_cmp op_lt r_cmp (toO (ve_var (v1 _))) (toO (ve_callB call_len r_len (by rfl) B.len (by decide +kernel) (vo_cons (toO (ve_var (v0 _))) vo_nil))) (nomark _))
    (vss_one (vs_ret (ve_ix (toO (ve_var (v0 _))) (toO (ve_var (v1 _))) (fun _ _ => rfl))))
    vss_nil)
    (vss_cons (vs_set nd rfl (.inl rfl) ve_int)
    (vss_cons (vs_for PassesOwn.never rfl (vi_items (ve_var (v0 _))) (vg_nm nd rfl (.inl rfl))
    (vss_one (vs_set nd rfl (.inl rfl) (ve_bin op_mod r_mod (toO (ve_callTy call_int1 r_toInt (by rfl) B.int (by decide +kernel) (vo_cons (toO (ve_bin op_addD r_add (toO (ve_bin op_mulD r_mul (toO (ve_var (v2 _))) (toO ve_int))) (toO (ve_bin op_mod r_mod (toO (ve_callTy call_int1 r_toInt (by rfl) B.int (by decide +kernel) (vo_cons (toO (ve_var (v3 _))) vo_nil))) (toO ve_int))))) vo_nil))) (toO ve_int)))))
    (vss_one (vs_ret (ve_bin op_mod r_mod (toO (ve_callTy call_int1 r_toInt (by rfl) B.int (by decide +kernel) (vo_cons (toO (ve_bin op_mulD r_mul (toO (ve_bin op_mulD r_mul (toO (ve_bin op_addD r_add (toO (ve_var (v2 _))) (toO ve_int))) (toO (ve_bin op_addD r_add (toO (ve_var (v1 _))) (toO ve_int))))) (toO ve_int))) vo_nil))) (toO ve_int)))))))
theorem d_law_cell {P : Program} {wd : World} {K : PySem.W.Frag} {mg : Str → Option Value} {base : Heap} {cl : Nat → ClsT} (B : Bt mg) (kk : Ks K cl) (a_law_cell : At K mg "_law_cell" s_law_cell) : Def P wd K mg base cl 1 "_law_cell" 2 cellF :=
  def_of a_law_cell sc_law_cell (fun _ _ F => F.binds (ps := ["script", "k"]) fun _ _ _ _ _ _ us hl => match us, hl with | [_, _], _ => rfl) fun f cdv A outer s H E G0 H0 sf hr => b_law_cell (k := 0) B kk hr

/-! _law_digits -/
abbrev s_law_digits : Stmt := top 19
abbrev N_law_digits : List Str := ["cell", "sizes", "row", "rest", "size", "seed", "k", "twice"]
theorem sc_law_digits : FnScope N_law_digits ["cell", "sizes"] (defScope s_law_digits) := ⟨rfl, rfl, rfl, by decide +kernel, rfl, by decide +kernel, by decide +kernel⟩
theorem b_law_digits {P : Program} {wd : World} {K : PySem.W.Frag} {mg : Str → Option Value} {base : Heap} {cl : Nat → ClsT} {k : Nat} (B : Bt mg) (kk : Ks K cl)
    {f : Addr} {cdv : Value} {A : Around} {outer : List PySem.Env} {s : Shared} {H : Hp} {E : XK} {G0 H0 : Hp} {sf : Addr} (hr : Room k (A.deeper (envOfC "_law_digits" (defScope s_law_digits) s.heap.objs.size f cdv))) :
    VSs ⟨cl, G0, H0, sf⟩ (XX P wd K mg base N_law_digits "_law_digits" (defScope s_law_digits) f cdv A outer s H E) (defBody s_law_digits) (m_digits) := by
  have hr0 := hr
  have hu : (XX P wd K mg base N_law_digits "_law_digits" (defScope s_law_digits) f cdv A outer s H E).A.units + 64 < cLine := hr.units
  have nd : (XX P wd K mg base N_law_digits "_law_digits" (defScope s_law_digits) f cdv A outer s H E).N.Nodup := sc_law_digits.nd
  have v0 : ∀ pos, PE (XX P wd K mg base N_law_digits "_law_digits" (defScope s_law_digits) f cdv A outer s H E) (.Name "cell" pos) (tVar 0) := fun _ => pv 0
  have v1 : ∀ pos, PE (XX P wd K mg base N_law_digits "_law_digits" (defScope s_law_digits) f cdv A outer s H E) (.Name "sizes" pos) (tVar 1) := fun _ => pv 1
  have v2 : ∀ pos, PE (XX P wd K mg base N_law_digits "_law_digits" (defScope s_law_digits) f cdv A outer s H E) (.Name "row" pos) (tVar 2) := fun _ => pv 2
  have v3 : ∀ pos, PE (XX P wd K mg base N_law_digits "_law_digits" (defScope s_law_digits) f cdv A outer s H E) (.Name "rest" pos) (tVar 3) := fun _ => pv 3
  have v4 : ∀ pos, PE (XX P wd K mg base N_law_digits "_law_digits" (defScope s_law_digits) f cdv A outer s H E) (.Name "size" pos) (tVar 4) := fun _ => pv 4
  have v5 : ∀ pos, PE (XX P wd K mg base N_law_digits "_law_digits" (defScope s_law_digits) f cdv A outer s H E) (.Name "seed" pos) (tVar 5) := fun _ => pv 5
  have v6 : ∀ pos, PE (XX P wd K mg base N_law_digits "_law_digits" (defScope s_law_digits) f cdv A outer s H E) (.Name "k" pos) (tVar 6) := fun _ => pv 6
  have v7 : ∀ pos, PE (XX P wd K mg base N_law_digits "_law_digits" (defScope s_law_digits) f cdv A outer s H E) (.Name "twice" pos) (tVar 7) := fun _ => pv 7
  exact (vss_cons (vs_setF nd rfl (.inl rfl) (vf_lst va_nil))
    (vss_cons (vs_set nd rfl (.inl rfl) (ve_callTy call_int1 r_toInt (by rfl) B.int (by decide +kernel) (vo_cons (toO (ve_var (v0 _))) vo_nil)))
    (vss_cons (vs_if (vt_cmp op_ge r_cmp (toO (ve_var (v3 _))) (toO (ve_bin op_pow r_pow (toO ve_int) (toO ve_int))) (nomark _))
    (vss_cons (vs_set nd rfl (.inl rfl) (ve_bin op_sub r_sub (toO (ve_var (v3 _))) (toO (ve_bin op_pow r_pow (toO ve_int) (toO ve_int)))))
    (vss_cons (vs_for PassesOwn.never rfl (vi_items (ve_var (v1 _))) (vg_nm nd rfl (.inl rfl))
    (vss_cons (vs_app (v2 _) (ve_bin op_mod r_mod (toO (ve_callTy call_int1 r_toInt (by rfl) B.int (by decide +kernel) (vo_cons (toO (ve_var (v3 _))) vo_nil))) (toO (ve_var (v4 _)))))
    (vss_one (vs_set nd rfl (.inl rfl) (ve_bin op_fdiv r_fdiv (toO (ve_callTy call_int1 r_toInt (by rfl) B.int (by decide +kernel) (vo_cons (toO (ve_var (v3 _))) vo_nil))) (toO (ve_var (v4 _))))))))
    (vss_one (vs_retV (v2 _)))))
    vss_nil)
    (vss_cons (vs_set nd rfl (.inl rfl) (ve_bin op_mod r_mod (toO (ve_callTy call_int1 r_toInt (by rfl) B.int (by decide +kernel) (vo_cons (toO (ve_var (v3 _))) vo_nil))) (toO ve_int)))
    (vss_cons (vs_for PassesOwn.never rfl (vi_range1 (by rfl) B.range (vo_cons (toO (ve_callB call_len r_len (by rfl) B.len (by decide +kernel) (vo_cons (toO (ve_var (v1 _))) vo_nil))) vo_nil)) (vg_nm nd rfl (.inl rfl))
    (vss_cons (vs_set nd rfl (.inl rfl) (ve_bin op_mod r_mod (toO (ve_callTy call_int1 r_toInt (by rfl) B.int (by decide +kernel) (vo_cons (toO (ve_bin op_addD r_add (toO (ve_bin op_addD r_add (toO (ve_bin op_mulD r_mul (toO (ve_var (v5 _))) (toO ve_int))) (toO (ve_bin op_mulD r_mul (toO ve_int) (toO (ve_var (v6 _))))))) (toO ve_int))) vo_nil))) (toO ve_int)))
    (vss_cons (vs_set nd rfl (.inl rfl) (ve_bin op_mod r_mod (toO (ve_callTy call_int1 r_toInt (by rfl) B.int (by decide +kernel) (vo_cons (toO (ve_bin op_mulD r_mul (toO (ve_var (v5 _))) (toO (ve_bin op_addD r_add (toO (ve_bin op_fdiv r_fdiv (toO (ve_var (v5 _))) (toO ve_int))) (toO ve_int))))) vo_nil))) (toO ve_int)))
    (vss_one (vs_app (v2 _) (ve_bin op_mod r_mod (toO (ve_callTy call_int1 r_toInt (by rfl) B.int (by decide +kernel) (vo_cons (toO (ve_bin op_fdiv r_fdiv (toO (ve_var (v7 _))) (toO ve_int))) vo_nil))) (toO (ve_ix (toO (ve_var (v1 _))) (toO (ve_var (v6 _))) (fun _ _ => rfl)))))))))
    (vss_one (vs_retV (v2 _))))))))
theorem d_law_digits {P : Program} {wd : World} {K : PySem.W.Frag} {mg : Str → Option Value} {base : Heap} {cl : Nat → ClsT} (B : Bt mg) (kk : Ks K cl) (a_law_digits : At K mg "_law_digits" s_law_digits) : Def P wd K mg base cl 1 "_law_digits" 2 digitsF :=
  def_of a_law_digits sc_law_digits (fun _ _ F => F.binds (ps := ["cell", "sizes"]) fun _ _ _ _ _ _ us hl => match us, hl with | [_, _], _ => rfl) fun f cdv A outer s H E G0 H0 sf hr => b_law_digits (k := 0) B kk hr

/-! _law_is_row -/
abbrev s_law_is_row : Stmt := top 20
abbrev N_law_is_row : List Str := ["told", "due", "k"]
theorem sc_law_is_row : FnScope N_law_is_row ["told", "due"] (defScope s_law_is_row) := ⟨rfl, rfl, rfl, by decide +kernel, rfl, by decide +kernel, by decide +kernel⟩
def m_law_is_row : Sf :=
    (sSeq (sIf (tOrF (tNotF (tB1 (eArgs oIsi (aCons (eVar 0) (aCons (eC (.ty "tuple")) aNil))))) (tB1 (eBin oNe (eArgs oLen (aCons (eVar 0) aNil)) (eArgs oLen (aCons (eVar 1) aNil)))))
    (sRet (eC (.bl false)))
    sNext)
    (sSeq (sFor (aRng1 (aCons (eArgs oLen (aCons (eVar 1) aNil)) aNil)) (.nm 2)
    (sIf (tOrF (tNotF (tB1 (eCall wholeF (aCons (eBin oIx (eVar 0) (eVar 2)) aNil)))) (tB1 (eBin oNe (eBin oIx (eVar 0) (eVar 2)) (eBin oIx (eVar 1) (eVar 2)))))
    (sRet (eC (.bl false)))
    sNext))
    (sRet (eC (.bl true)))))
def F_law_is_row : List D → Ret := runF 3 m_law_is_row
theorem b_law_is_row {P : Program} {wd : World} {K : PySem.W.Frag} {mg : Str → Option Value} {base : Heap} {cl : Nat → ClsT} {k : Nat} (B : Bt mg) (kk : Ks K cl) (c_law_whole : Def P wd K mg base cl k "_law_whole" 1 wholeF)
    {f : Addr} {cdv : Value} {A : Around} {outer : List PySem.Env} {s : Shared} {H : Hp} {E : XK} {G0 H0 : Hp} {sf : Addr} (hr : Room k (A.deeper (envOfC "_law_is_row" (defScope s_law_is_row) s.heap.objs.size f cdv))) :
    VSs ⟨cl, G0, H0, sf⟩ (XX P wd K mg base N_law_is_row "_law_is_row" (defScope s_law_is_row) f cdv A outer s H E) (defBody s_law_is_row) (m_law_is_row) := by
  have hr0 := hr
  have hu : (XX P wd K mg base N_law_is_row "_law_is_row" (defScope s_law_is_row) f cdv A outer s H E).A.units + 64 < cLine := hr.units
  have nd : (XX P wd K mg base N_law_is_row "_law_is_row" (defScope s_law_is_row) f cdv A outer s H E).N.Nodup := sc_law_is_row.nd
  have v0 : ∀ pos, PE (XX P wd K mg base N_law_is_row "_law_is_row" (defScope s_law_is_row) f cdv A outer s H E) (.Name "told" pos) (tVar 0) := fun _ => pv 0
  have v1 : ∀ pos, PE (XX P wd K mg base N_law_is_row "_law_is_row" (defScope s_law_is_row) f cdv A outer s H E) (.Name "due" pos) (tVar 1) := fun _ => pv 1
  have v2 : ∀ pos, PE (XX P wd K mg base N_law_is_row "_law_is_row" (defScope s_law_is_row) f cdv A outer s H E) (.Name "k" pos) (tVar 2) := fun _ => pv 2
  exact (vss_cons (vs_if (vt_w (vw_or (vt_not (vt_val (ve_callB call_isiD r_isi (by rfl) B.isinstance (by decide +kernel) (vo_cons (toO (ve_var (v0 _))) (vo_cons (toO (ve_ty (by rfl) B.tuple (by decide +kernel))) vo_nil))))) (vw_or1 (vt_cmp (op_neB hu) r_ne (toO (ve_callB call_len r_len (by rfl) B.len (by decide +kernel) (vo_cons (toO (ve_var (v0 _))) vo_nil))) (toO (ve_callB call_len r_len (by rfl) B.len (by decide +kernel) (vo_cons (toO (ve_var (v1 _))) vo_nil))) (nomark _)))))
    (vss_one (vs_ret ve_bl))
    vss_nil)
    (vss_cons (vs_for PassesOwn.never rfl (vi_range1 (by rfl) B.range (vo_cons (toO (ve_callB call_len r_len (by rfl) B.len (by decide +kernel) (vo_cons (toO (ve_var (v1 _))) vo_nil))) vo_nil)) (vg_nm nd rfl (.inl rfl))
    (vss_one (vs_if (vt_w (vw_or (vt_not (vt_val (ve_call c_law_whole hr0 (by rfl) (va_cons (ve_ix (toO (ve_var (v0 _))) (toO (ve_var (v2 _))) (fun _ _ => rfl)) va_nil) (alen_cons alen_nil)))) (vw_or1 (vt_cmp (op_neB hu) r_ne (toO (ve_ix (toO (ve_var (v0 _))) (toO (ve_var (v2 _))) (fun _ _ => rfl))) (toO (ve_ix (toO (ve_var (v1 _))) (toO (ve_var (v2 _))) (fun _ _ => rfl))) (nomark _)))))
    (vss_one (vs_ret ve_bl))
    vss_nil)))
    (vss_one (vs_ret ve_bl))))
theorem d_law_is_row {P : Program} {wd : World} {K : PySem.W.Frag} {mg : Str → Option Value} {base : Heap} {cl : Nat → ClsT} (B : Bt mg) (kk : Ks K cl) (a_law_is_row : At K mg "_law_is_row" s_law_is_row) (c_law_whole : Def P wd K mg base cl 1 "_law_whole" 1 wholeF) : Def P wd K mg base cl 2 "_law_is_row" 2 F_law_is_row :=
  def_of a_law_is_row sc_law_is_row (fun _ _ F => F.binds (ps := ["told", "due"]) fun _ _ _ _ _ _ us hl => match us, hl with | [_, _], _ => rfl) fun f cdv A outer s H E G0 H0 sf hr => b_law_is_row (k := 1) B kk (c_law_whole.mono (by decide)) hr

/-! _law_is_emptied -/
abbrev s_law_is_emptied : Stmt := top 21
abbrev N_law_is_emptied : List Str := ["told", "row", "which", "priority", "others", "k"]
theorem sc_law_is_emptied : FnScope N_law_is_emptied ["told", "row", "which", "priority"] (defScope s_law_is_emptied) := ⟨rfl, rfl, rfl, by decide +kernel, rfl, by decide +kernel, by decide +kernel⟩
def m_law_is_emptied : Sf :=
    (sSeq (sSetF 4 (aLst (aCons (eVar 3) aNil)))
    (sSeq (sFor (aRng1 (aCons (eArgs oLen (aCons (eVar 1) aNil)) aNil)) (.nm 5)
    (sIf (tB1 (eBin oNe (eVar 5) (eBin oSub (eVar 2) (eC (.int 1)))))
    (sApp 4 (eBin oIx (eVar 1) (eVar 5)))
    sNext))
    (sSeq (sIf (tOrF (tNotF (tB1 (eArgs oIsi (aCons (eVar 0) (aCons (eC (.ty "tuple")) aNil))))) (tB1 (eBin oNe (eArgs oLen (aCons (eVar 0) aNil)) (eC (.int 2)))))
    (sRet (eC (.bl false)))
    sNext)
    (sFrz 4 (sRet (eAnd (eCall wholeF (aCons (eBin oIx (eVar 0) (eC (.int 0))) aNil)) (eAnd (eBin oEq (eBin oIx (eVar 0) (eC (.int 0))) (eBin oIx (eVar 1) (eBin oSub (eVar 2) (eC (.int 1))))) (eCall F_law_is_row (aCons (eBin oIx (eVar 0) (eC (.int 1))) (aCons (eVar 4) aNil))))))))))
def F_law_is_emptied : List D → Ret := runF 6 m_law_is_emptied
theorem b_law_is_emptied {P : Program} {wd : World} {K : PySem.W.Frag} {mg : Str → Option Value} {base : Heap} {cl : Nat → ClsT} {k : Nat} (B : Bt mg) (kk : Ks K cl) (c_law_whole : Def P wd K mg base cl k "_law_whole" 1 wholeF) (c_law_is_row : Def P wd K mg base cl k "_law_is_row" 2 F_law_is_row)
    {f : Addr} {cdv : Value} {A : Around} {outer : List PySem.Env} {s : Shared} {H : Hp} {E : XK} {G0 H0 : Hp} {sf : Addr} (hr : Room k (A.deeper (envOfC "_law_is_emptied" (defScope s_law_is_emptied) s.heap.objs.size f cdv))) :
    VSs ⟨cl, G0, H0, sf⟩ (XX P wd K mg base N_law_is_emptied "_law_is_emptied" (defScope s_law_is_emptied) f cdv A outer s H E) (defBody s_law_is_emptied) (m_law_is_emptied) := by
  have hr0 := hr
  have hu : (XX P wd K mg base N_law_is_emptied "_law_is_emptied" (defScope s_law_is_emptied) f cdv A outer s H E).A.units + 64 < cLine := hr.units
  have nd : (XX P wd K mg base N_law_is_emptied "_law_is_emptied" (defScope s_law_is_emptied) f cdv A outer s H E).N.Nodup := sc_law_is_emptied.nd
  have v0 : ∀ pos, PE (XX P wd K mg base N_law_is_emptied "_law_is_emptied" (defScope s_law_is_emptied) f cdv A outer s H E) (.Name "told" pos) (tVar 0) := fun _ => pv 0
  have v1 : ∀ pos, PE (XX P wd K mg base N_law_is_emptied "_law_is_emptied" (defScope s_law_is_emptied) f cdv A outer s H E) (.Name "row" pos) (tVar 1) := fun _ => pv 1
  have v2 : ∀ pos, PE (XX P wd K mg base N_law_is_emptied "_law_is_emptied" (defScope s_law_is_emptied) f cdv A outer s H E) (.Name "which" pos) (tVar 2) := fun _ => pv 2
  have v3 : ∀ pos, PE (XX P wd K mg base N_law_is_emptied "_law_is_emptied" (defScope s_law_is_emptied) f cdv A outer s H E) (.Name "priority" pos) (tVar 3) := fun _ => pv 3
  have v4 : ∀ pos, PE (XX P wd K mg base N_law_is_emptied "_law_is_emptied" (defScope s_law_is_emptied) f cdv A outer s H E) (.Name "others" pos) (tVar 4) := fun _ => pv 4
  have v5 : ∀ pos, PE (XX P wd K mg base N_law_is_emptied "_law_is_emptied" (defScope s_law_is_emptied) f cdv A outer s H E) (.Name "k" pos) (tVar 5) := fun _ => pv 5
  exact (vss_cons (vs_setF nd rfl (.inl rfl) (vf_lst (va_cons (ve_var (v3 _)) va_nil)))
    (vss_cons (vs_for PassesOwn.never rfl (vi_range1 (by rfl) B.range (vo_cons (toO (ve_callB call_len r_len (by rfl) B.len (by decide +kernel) (vo_cons (toO (ve_var (v1 _))) vo_nil))) vo_nil)) (vg_nm nd rfl (.inl rfl))
    (vss_one (vs_if (vt_cmp (op_neB hu) r_ne (toO (ve_var (v5 _))) (toO (ve_bin op_sub r_sub (toO (ve_var (v2 _))) (toO ve_int))) (nomark _))
    (vss_one (vs_app (v4 _) (ve_ix (toO (ve_var (v1 _))) (toO (ve_var (v5 _))) (fun _ _ => rfl))))
    vss_nil)))
    (vss_cons (vs_if (vt_w (vw_or (vt_not (vt_val (ve_callB call_isiD r_isi (by rfl) B.isinstance (by decide +kernel) (vo_cons (toO (ve_var (v0 _))) (vo_cons (toO (ve_ty (by rfl) B.tuple (by decide +kernel))) vo_nil))))) (vw_or1 (vt_cmp (op_neB hu) r_ne (toO (ve_callB call_len r_len (by rfl) B.len (by decide +kernel) (vo_cons (toO (ve_var (v0 _))) vo_nil))) (toO ve_int) (nomark _)))))
    (vss_one (vs_ret ve_bl))
    vss_nil)
    (vss_one (vs_frz 4 (vs_ret (ve_and (ve_call c_law_whole hr0 (by rfl) (va_cons (ve_ix (toO (ve_var (v0 _))) (toO ve_int) (fun _ _ => rfl)) va_nil) (alen_cons alen_nil)) (ve_and (ve_cmp (op_eqB hu) r_eq (toO (ve_ix (toO (ve_var (v0 _))) (toO ve_int) (fun _ _ => rfl))) (toO (ve_ix (toO (ve_var (v1 _))) (toO (ve_bin op_sub r_sub (toO (ve_var (v2 _))) (toO ve_int))) (fun _ _ => rfl))) (nomark _)) (ve_one (ve_call c_law_is_row hr0 (by rfl) (va_cons (ve_ix (toO (ve_var (v0 _))) (toO ve_int) (fun _ _ => rfl)) (va_cons (ve_var (v4 _)) va_nil)) (alen_cons (alen_cons alen_nil))))))))))))
theorem d_law_is_emptied {P : Program} {wd : World} {K : PySem.W.Frag} {mg : Str → Option Value} {base : Heap} {cl : Nat → ClsT} (B : Bt mg) (kk : Ks K cl) (a_law_is_emptied : At K mg "_law_is_emptied" s_law_is_emptied) (c_law_whole : Def P wd K mg base cl 1 "_law_whole" 1 wholeF) (c_law_is_row : Def P wd K mg base cl 2 "_law_is_row" 2 F_law_is_row) : Def P wd K mg base cl 3 "_law_is_emptied" 4 F_law_is_emptied :=
  def_of a_law_is_emptied sc_law_is_emptied (fun _ _ F => F.binds (ps := ["told", "row", "which", "priority"]) fun _ _ _ _ _ _ us hl => match us, hl with | [_, _, _, _], _ => rfl) fun f cdv A outer s H E G0 H0 sf hr => b_law_is_emptied (k := 2) B kk (c_law_whole.mono (by decide)) (c_law_is_row.mono (by decide)) hr

/-! _law_is_signal -/
abbrev s_law_is_signal : Stmt := top 22
abbrev N_law_is_signal : List Str := ["told", "which", "value", "due"]
theorem sc_law_is_signal : FnScope N_law_is_signal ["told", "which", "value"] (defScope s_law_is_signal) := ⟨rfl, rfl, rfl, by decide +kernel, rfl, by decide +kernel, by decide +kernel⟩
def m_law_is_signal : Sf :=
    (sSeq (sSet 3 (eC (.int 1)))
    (sSeq (sIf (tB1 (eBin oGt (eVar 1) (eC (.int 0))))
    (sSet 3 (eBin oAdd (eBin oAdd (eVar 1) (eVar 1)) (eArgs oToInt (aCons (eBin oSub (eVar 2) (eBin oMul (eBin oFdiv (eVar 2) (eC (.int 2))) (eC (.int 2)))) aNil))))
    sNext)
    (sRet (eAnd (eCall wholeF (aCons (eVar 0) aNil)) (eBin oEq (eVar 0) (eVar 3))))))
def F_law_is_signal : List D → Ret := runF 4 m_law_is_signal
theorem b_law_is_signal {P : Program} {wd : World} {K : PySem.W.Frag} {mg : Str → Option Value} {base : Heap} {cl : Nat → ClsT} {k : Nat} (B : Bt mg) (kk : Ks K cl) (c_law_whole : Def P wd K mg base cl k "_law_whole" 1 wholeF)
    {f : Addr} {cdv : Value} {A : Around} {outer : List PySem.Env} {s : Shared} {H : Hp} {E : XK} {G0 H0 : Hp} {sf : Addr} (hr : Room k (A.deeper (envOfC "_law_is_signal" (defScope s_law_is_signal) s.heap.objs.size f cdv))) :
    VSs ⟨cl, G0, H0, sf⟩ (XX P wd K mg base N_law_is_signal "_law_is_signal" (defScope s_law_is_signal) f cdv A outer s H E) (defBody s_law_is_signal) (m_law_is_signal) := by
  have hr0 := hr
  have hu : (XX P wd K mg base N_law_is_signal "_law_is_signal" (defScope s_law_is_signal) f cdv A outer s H E).A.units + 64 < cLine := hr.units
  have nd : (XX P wd K mg base N_law_is_signal "_law_is_signal" (defScope s_law_is_signal) f cdv A outer s H E).N.Nodup := sc_law_is_signal.nd
  have v0 : ∀ pos, PE (XX P wd K mg base N_law_is_signal "_law_is_signal" (defScope s_law_is_signal) f cdv A outer s H E) (.Name "told" pos) (tVar 0) := fun _ => pv 0
  have v1 : ∀ pos, PE (XX P wd K mg base N_law_is_signal "_law_is_signal" (defScope s_law_is_signal) f cdv A outer s H E) (.Name "which" pos) (tVar 1) := fun _ => pv 1
  have v2 : ∀ pos, PE (XX P wd K mg base N_law_is_signal "_law_is_signal" (defScope s_law_is_signal) f cdv A outer s H E) (.Name "value" pos) (tVar 2) := fun _ => pv 2
  have v3 : ∀ pos, PE (XX P wd K mg base N_law_is_signal "_law_is_signal" (defScope s_law_is_signal) f cdv A outer s H E) (.Name "due" pos) (tVar 3) := fun _ => pv 3
  exact (vss_cons (vs_set nd rfl (.inl rfl) ve_int)
    (vss_cons (vs_if (vt_cmp op_gt r_cmp (toO (ve_var (v1 _))) (toO ve_int) (nomark _))
    (vss_one (vs_set nd rfl (.inl rfl) (ve_bin op_addD r_add (toO (ve_bin op_addD r_add (toO (ve_var (v1 _))) (toO (ve_var (v1 _))))) (toO (ve_callTy call_int1 r_toInt (by rfl) B.int (by decide +kernel) (vo_cons (toO (ve_bin op_sub r_sub (toO (ve_var (v2 _))) (toO (ve_bin op_mulD r_mul (toO (ve_bin op_fdiv r_fdiv (toO (ve_var (v2 _))) (toO ve_int))) (toO ve_int))))) vo_nil))))))
    vss_nil)
    (vss_one (vs_ret (ve_and (ve_call c_law_whole hr0 (by rfl) (va_cons (ve_var (v0 _)) va_nil) (alen_cons alen_nil)) (ve_one (ve_cmp (op_eqB hu) r_eq (toO (ve_var (v0 _))) (toO (ve_var (v3 _))) (nomark _))))))))
theorem d_law_is_signal {P : Program} {wd : World} {K : PySem.W.Frag} {mg : Str → Option Value} {base : Heap} {cl : Nat → ClsT} (B : Bt mg) (kk : Ks K cl) (a_law_is_signal : At K mg "_law_is_signal" s_law_is_signal) (c_law_whole : Def P wd K mg base cl 1 "_law_whole" 1 wholeF) : Def P wd K mg base cl 2 "_law_is_signal" 3 F_law_is_signal :=
  def_of a_law_is_signal sc_law_is_signal (fun _ _ F => F.binds (ps := ["told", "which", "value"]) fun _ _ _ _ _ _ us hl => match us, hl with | [_, _, _], _ => rfl) fun f cdv A outer s H E G0 H0 sf hr => b_law_is_signal (k := 1) B kk (c_law_whole.mono (by decide)) hr

/-! _law_start_good -/
abbrev s_law_start_good : Stmt := top 23
abbrev N_law_start_good : List Str := ["cells", "registers", "count", "priorities", "made", "ceiling", "priority", "many", "v", "k"]
theorem sc_law_start_good : FnScope N_law_start_good ["cells", "registers"] (defScope s_law_start_good) := ⟨rfl, rfl, rfl, by decide +kernel, rfl, by decide +kernel, by decide +kernel⟩
def m_law_start_good : Sf :=
    (sSeq (sSet 2 (eBin oIx (eVar 0) (eC (.int 0))))
    (sSeq (sSet 3 (eSlA (eVar 0) (pSome (eC (.int 1))) (pSome (eBin oAdd (eC (.int 1)) (eVar 2)))))
    (sSeq (sSet 4 (fW (aMake 0 Game_initF (aCons (fL (aComp (aRng1 (aCons (eVar 2) aNil)) (.nm 8) tYesF (eC (.int 0)))) (aCons (fL (aArgs oList (aCons (eVar 3) aNil))) (aCons (fL (aComp (aRng1 (aCons (eVar 2) aNil)) (.nm 8) tYesF (fL (aLst (aCons (eBin oMod (eArgs oToInt (aCons (eBin oAdd (eVar 8) (eC (.int 1))) aNil)) (eVar 2)) aNil))))) aNil))))))
    (sSeq (sSet 5 (eC (.int 2)))
    (sSeq (sFor (aItems (eVar 3)) (.nm 6)
    (sIf (tB1 (eBin oGe (eVar 6) (eVar 5)))
    (sSet 5 (eBin oSub (eBin oAdd (eVar 6) (eC (.int 2))) (eBin oMod (eArgs oToInt (aCons (eVar 6) aNil)) (eC (.int 2)))))
    sNext))
    (sSeq (sFor (aItems (fL (aLst (aCons (eVar 1) (aCons (eBin oSub (eC (.int 7)) (eVar 1)) (aCons (eVar 1) (aCons (eVar 1) aNil))))))) (.nm 7)
    (sIf (tNotF (tB1 (eCall F_law_is_row (aCons (eCall F_start_row (aCons (eVar 4) (aCons (eVar 7) aNil))) (aCons (fL (aComp (aRng1 (aCons (eVar 7) aNil)) (.nm 9) tYesF (eVar 5))) aNil)))))
    (sRet (eC (.bl false)))
    sNext))
    (sRet (eC (.bl true)))))))))
def F_law_start_good : List D → Ret := runF 10 m_law_start_good
theorem b_law_start_good {P : Program} {wd : World} {K : PySem.W.Frag} {mg : Str → Option Value} {base : Heap} {cl : Nat → ClsT} {k : Nat} (B : Bt mg) (kk : Ks K cl) (c_Game_init : MkD P wd K mg base cl k 0 "Game" 3 Game_initF) (c_law_is_row : Def P wd K mg base cl k "_law_is_row" 2 F_law_is_row) (c_start_row : Def P wd K mg base cl k "start_row" 2 F_start_row)
    {f : Addr} {cdv : Value} {A : Around} {outer : List PySem.Env} {s : Shared} {H : Hp} {E : XK} {G0 H0 : Hp} {sf : Addr} (hr : Room (k + 1) (A.deeper (envOfC "_law_start_good" (defScope s_law_start_good) s.heap.objs.size f cdv))) :
    VSs ⟨cl, G0, H0, sf⟩ (XX P wd K mg base N_law_start_good "_law_start_good" (defScope s_law_start_good) f cdv A outer s H E) (defBody s_law_start_good) (m_law_start_good) := by
  have hr0 := hr.mono (Nat.le_succ k)
  have hu : (XX P wd K mg base N_law_start_good "_law_start_good" (defScope s_law_start_good) f cdv A outer s H E).A.units + 64 < cLine := hr.units
  have nd : (XX P wd K mg base N_law_start_good "_law_start_good" (defScope s_law_start_good) f cdv A outer s H E).N.Nodup := sc_law_start_good.nd
  have v0 : ∀ pos, PE (XX P wd K mg base N_law_start_good "_law_start_good" (defScope s_law_start_good) f cdv A outer s H E) (.Name "cells" pos) (tVar 0) := fun _ => pv 0
  have v1 : ∀ pos, PE (XX P wd K mg base N_law_start_good "_law_start_good" (defScope s_law_start_good) f cdv A outer s H E) (.Name "registers" pos) (tVar 1) := fun _ => pv 1
  have v2 : ∀ pos, PE (XX P wd K mg base N_law_start_good "_law_start_good" (defScope s_law_start_good) f cdv A outer s H E) (.Name "count" pos) (tVar 2) := fun _ => pv 2
  have v3 : ∀ pos, PE (XX P wd K mg base N_law_start_good "_law_start_good" (defScope s_law_start_good) f cdv A outer s H E) (.Name "priorities" pos) (tVar 3) := fun _ => pv 3
  have v4 : ∀ pos, PE (XX P wd K mg base N_law_start_good "_law_start_good" (defScope s_law_start_good) f cdv A outer s H E) (.Name "made" pos) (tVar 4) := fun _ => pv 4
  have v5 : ∀ pos, PE (XX P wd K mg base N_law_start_good "_law_start_good" (defScope s_law_start_good) f cdv A outer s H E) (.Name "ceiling" pos) (tVar 5) := fun _ => pv 5
  have v6 : ∀ pos, PE (XX P wd K mg base N_law_start_good "_law_start_good" (defScope s_law_start_good) f cdv A outer s H E) (.Name "priority" pos) (tVar 6) := fun _ => pv 6
  have v7 : ∀ pos, PE (XX P wd K mg base N_law_start_good "_law_start_good" (defScope s_law_start_good) f cdv A outer s H E) (.Name "many" pos) (tVar 7) := fun _ => pv 7
  exact (vss_cons (vs_set nd rfl (.inr rfl) (ve_ix (toO (ve_var (v0 _))) (toO ve_int) (fun _ _ => rfl)))
    (vss_cons (vs_set nd rfl (.inl rfl) (ve_slA (toO (ve_var (v0 _))) (vp_some (toO ve_int)) (vp_some (toO (ve_bin op_addD r_add (toO ve_int) (toO (ve_var (v2 _))))))))
    (vss_cons (vs_set nd rfl (.inl rfl) (ofN (vn_make c_Game_init hr (by rfl) (va_cons (ofF (vf_comp rfl nd (vi_range1 (by rfl) B.range (vo_cons (toO (ve_var (v2 _))) vo_nil)) (blkOk_by (own := [("v", 8)]) (N := N_law_start_good) (sc := (defScope s_law_start_good)) (by decide +kernel)) rfl (fun _ _ _ _ _ => (vg_nm nd rfl (by first | exact .inl rfl | exact .inr rfl))) (fun _ _ _ _ _ => vts_nil) (fun _ _ _ _ _ => ve_int))) (va_cons (ofF (vf_callTy call_list_of r_list (by rfl) B.list (by decide +kernel) (vo_cons (toO (ve_var (v3 _))) vo_nil))) (va_cons (ofF (vf_comp rfl nd (vi_range1 (by rfl) B.range (vo_cons (toO (ve_var (v2 _))) vo_nil)) (blkOk_by (own := [("v", 8)]) (N := N_law_start_good) (sc := (defScope s_law_start_good)) (by decide +kernel)) rfl (fun _ _ _ _ _ => (vg_nm nd rfl (by first | exact .inl rfl | exact .inr rfl))) (fun _ _ _ _ _ => vts_nil) (fun _ _ _ _ _ => (ofF (vf_lst (va_cons (ve_bin op_mod r_mod (toO (ve_callTy call_int1 r_toInt (by rfl) B.int (by decide +kernel) (vo_cons (toO (ve_bin op_addD r_add (toO (ve_var (pv 8))) (toO ve_int))) vo_nil))) (toO (ve_var (pv 2)))) va_nil)))))) va_nil))) (alen_cons (alen_cons (alen_cons alen_nil))))))
    (vss_cons (vs_set nd rfl (.inr rfl) ve_int)
    (vss_cons (vs_for PassesOwn.never rfl (vi_items (ve_var (v3 _))) (vg_nm nd rfl (.inl rfl))
    (vss_one (vs_if (vt_cmp op_ge r_cmp (toO (ve_var (v6 _))) (toO (ve_var (v5 _))) (nomark _))
    (vss_one (vs_set nd rfl (.inr rfl) (ve_bin op_sub r_sub (toO (ve_bin op_addD r_add (toO (ve_var (v6 _))) (toO ve_int))) (toO (ve_bin op_mod r_mod (toO (ve_callTy call_int1 r_toInt (by rfl) B.int (by decide +kernel) (vo_cons (toO (ve_var (v6 _))) vo_nil))) (toO ve_int))))))
    vss_nil)))
    (vss_cons (vs_for PassesOwn.never rfl (vi_items (ofF (vf_lst (va_cons (ve_var (v1 _)) (va_cons (ve_bin op_sub r_sub (toO ve_int) (toO (ve_var (v1 _)))) (va_cons (ve_var (v1 _)) (va_cons (ve_var (v1 _)) va_nil))))))) (vg_nm nd rfl (.inl rfl))
    (vss_one (vs_if (vt_not (vt_val (ve_call c_law_is_row hr0 (by rfl) (va_cons (ve_call c_start_row hr0 (by rfl) (va_cons (ve_var (v4 _)) (va_cons (ve_var (v7 _)) va_nil)) (alen_cons (alen_cons alen_nil))) (va_cons (ofF (vf_comp rfl nd (vi_range1 (by rfl) B.range (vo_cons (toO (ve_var (v7 _))) vo_nil)) (blkOk_by (own := [("k", 9)]) (N := N_law_start_good) (sc := (defScope s_law_start_good)) (by decide +kernel)) rfl (fun _ _ _ _ _ => (vg_nm nd rfl (by first | exact .inl rfl | exact .inr rfl))) (fun _ _ _ _ _ => vts_nil) (fun _ _ _ _ _ => (ve_var (pv 5))))) va_nil)) (alen_cons (alen_cons alen_nil)))))
    (vss_one (vs_ret ve_bl))
    vss_nil)))
    (vss_one (vs_ret ve_bl))))))))
theorem d_law_start_good {P : Program} {wd : World} {K : PySem.W.Frag} {mg : Str → Option Value} {base : Heap} {cl : Nat → ClsT} (B : Bt mg) (kk : Ks K cl) (a_law_start_good : At K mg "_law_start_good" s_law_start_good) (c_Game_init : MkD P wd K mg base cl 6 0 "Game" 3 Game_initF) (c_law_is_row : Def P wd K mg base cl 2 "_law_is_row" 2 F_law_is_row) (c_start_row : Def P wd K mg base cl 5 "start_row" 2 F_start_row) : Def P wd K mg base cl 8 "_law_start_good" 2 F_law_start_good :=
  def_of a_law_start_good sc_law_start_good (fun _ _ F => F.binds (ps := ["cells", "registers"]) fun _ _ _ _ _ _ us hl => match us, hl with | [_, _], _ => rfl) fun f cdv A outer s H E G0 H0 sf hr => b_law_start_good (k := 6) B kk (c_Game_init.mono (by decide)) (c_law_is_row.mono (by decide)) (c_start_row.mono (by decide)) hr

/-! _law_row_good -/
abbrev s_law_row_good : Stmt := top 24
abbrev N_law_row_good : List Str := ["row", "priority", "handed", "high", "number", "copied", "which"]
theorem sc_law_row_good : FnScope N_law_row_good ["row", "priority"] (defScope s_law_row_good) := ⟨rfl, rfl, rfl, by decide +kernel, rfl, by decide +kernel, by decide +kernel⟩
def m_law_row_good : Sf :=
    (sSeq (sSet 2 (fL (aArgs oList (aCons (eVar 0) aNil))))
    (sSeq (sSetF 3 (aLst aNil))
    (sSeq (sFor (aItems (eVar 0)) (.nm 4)
    (sIf (tB1 (eBin oLt (eVar 4) (eVar 1)))
    (sApp 3 (eVar 1))
    (sApp 3 (eVar 4))))
    (sSeq (sFrz 3 (sIf (tOrF (tNotF (tB1 (eCall F_law_is_row (aCons (eCall F_raised (aCons (eVar 2) (aCons (eVar 1) aNil))) (aCons (eVar 3) aNil))))) (tB1 (eBin oNe (eVar 2) (eVar 0))))
    (sRet (eC (.bl false)))
    sNext))
    (sSeq (sSet 5 (fL (aArgs oList (aCons (eOwn 3) aNil))))
    (sSeq (sFor (aRng2 (aCons (eC (.int 1)) (aCons (eBin oAdd (eArgs oLen (aCons (eOwn 3) aNil)) (eC (.int 1))) aNil))) (.nm 6)
    (sSeq (sFrz 3 (sIf (tOrF (tNotF (tB1 (eCall F_law_is_emptied (aCons (eCall F_emptied (aCons (eVar 5) (aCons (eVar 6) (aCons (eVar 1) aNil)))) (aCons (eVar 3) (aCons (eVar 6) (aCons (eVar 1) aNil))))))) (tB1 (eBin oNe (eVar 5) (eOwn 3))))
    (sRet (eC (.bl false)))
    sNext))
    (sFrz 3 (sIf (tNotF (tB1 (eCall F_law_is_emptied (aCons (eCall F_emptied (aCons (eArgs oTuple (aCons (eOwn 3) aNil)) (aCons (eVar 6) (aCons (eVar 1) aNil)))) (aCons (eVar 3) (aCons (eVar 6) (aCons (eVar 1) aNil)))))))
    (sRet (eC (.bl false)))
    sNext))))
    (sFrz 3 (sRet (eCall F_law_is_row (aCons (eCall F_raised (aCons (eArgs oTuple (aCons (eVar 0) aNil)) (aCons (eVar 1) aNil))) (aCons (eVar 3) aNil)))))))))))
def F_law_row_good : List D → Ret := runF 7 m_law_row_good
theorem b_law_row_good {P : Program} {wd : World} {K : PySem.W.Frag} {mg : Str → Option Value} {base : Heap} {cl : Nat → ClsT} {k : Nat} (B : Bt mg) (kk : Ks K cl) (c_law_is_row : Def P wd K mg base cl k "_law_is_row" 2 F_law_is_row) (c_raised : Def P wd K mg base cl k "raised" 2 F_raised) (c_law_is_emptied : Def P wd K mg base cl k "_law_is_emptied" 4 F_law_is_emptied) (c_emptied : Def P wd K mg base cl k "emptied" 3 F_emptied)
    {f : Addr} {cdv : Value} {A : Around} {outer : List PySem.Env} {s : Shared} {H : Hp} {E : XK} {G0 H0 : Hp} {sf : Addr} (hr : Room k (A.deeper (envOfC "_law_row_good" (defScope s_law_row_good) s.heap.objs.size f cdv))) :
    VSs ⟨cl, G0, H0, sf⟩ (XX P wd K mg base N_law_row_good "_law_row_good" (defScope s_law_row_good) f cdv A outer s H E) (defBody s_law_row_good) (m_law_row_good) := by
  have hr0 := hr
  have hu : (XX P wd K mg base N_law_row_good "_law_row_good" (defScope s_law_row_good) f cdv A outer s H E).A.units + 64 < cLine := hr.units
  have nd : (XX P wd K mg base N_law_row_good "_law_row_good" (defScope s_law_row_good) f cdv A outer s H E).N.Nodup := sc_law_row_good.nd
  have v0 : ∀ pos, PE (XX P wd K mg base N_law_row_good "_law_row_good" (defScope s_law_row_good) f cdv A outer s H E) (.Name "row" pos) (tVar 0) := fun _ => pv 0
  have v1 : ∀ pos, PE (XX P wd K mg base N_law_row_good "_law_row_good" (defScope s_law_row_good) f cdv A outer s H E) (.Name "priority" pos) (tVar 1) := fun _ => pv 1
  have v2 : ∀ pos, PE (XX P wd K mg base N_law_row_good "_law_row_good" (defScope s_law_row_good) f cdv A outer s H E) (.Name "handed" pos) (tVar 2) := fun _ => pv 2
  have v3 : ∀ pos, PE (XX P wd K mg base N_law_row_good "_law_row_good" (defScope s_law_row_good) f cdv A outer s H E) (.Name "high" pos) (tVar 3) := fun _ => pv 3
  have v4 : ∀ pos, PE (XX P wd K mg base N_law_row_good "_law_row_good" (defScope s_law_row_good) f cdv A outer s H E) (.Name "number" pos) (tVar 4) := fun _ => pv 4
  have v5 : ∀ pos, PE (XX P wd K mg base N_law_row_good "_law_row_good" (defScope s_law_row_good) f cdv A outer s H E) (.Name "copied" pos) (tVar 5) := fun _ => pv 5
  have v6 : ∀ pos, PE (XX P wd K mg base N_law_row_good "_law_row_good" (defScope s_law_row_good) f cdv A outer s H E) (.Name "which" pos) (tVar 6) := fun _ => pv 6
  exact (vss_cons (vs_set nd rfl (.inl rfl) (ofF (vf_callTy call_list_of r_list (by rfl) B.list (by decide +kernel) (vo_cons (toO (ve_var (v0 _))) vo_nil))))
    (vss_cons (vs_setF nd rfl (.inl rfl) (vf_lst va_nil))
    (vss_cons (vs_for PassesOwn.never rfl (vi_items (ve_var (v0 _))) (vg_nm nd rfl (.inl rfl))
    (vss_one (vs_if (vt_cmp op_lt r_cmp (toO (ve_var (v4 _))) (toO (ve_var (v1 _))) (nomark _))
    (vss_one (vs_app (v3 _) (ve_var (v1 _))))
    (vss_one (vs_app (v3 _) (ve_var (v4 _)))))))
    (vss_cons (vs_frz 3 (vs_if (vt_w (vw_or (vt_not (vt_val (ve_call c_law_is_row hr0 (by rfl) (va_cons (ve_call c_raised hr0 (by rfl) (va_cons (ve_var (v2 _)) (va_cons (ve_var (v1 _)) va_nil)) (alen_cons (alen_cons alen_nil))) (va_cons (ve_var (v3 _)) va_nil)) (alen_cons (alen_cons alen_nil))))) (vw_or1 (vt_cmp (op_neB hu) r_ne (toO (ve_var (v2 _))) (toO (ve_var (v0 _))) (nomark _)))))
    (vss_one (vs_ret ve_bl))
    vss_nil))
    (vss_cons (vs_set nd rfl (.inl rfl) (ofF (vf_callTy call_list_of r_list (by rfl) B.list (by decide +kernel) (vo_cons (vo_var (v3 _)) vo_nil))))
    (vss_cons (vs_for PassesOwn.never rfl (vi_range2 (by rfl) B.range (vo_cons (toO ve_int) (vo_cons (toO (ve_bin op_addD r_add (toO (ve_callB call_len r_len (by rfl) B.len (by decide +kernel) (vo_cons (vo_var (v3 _)) vo_nil))) (toO ve_int))) vo_nil))) (vg_nm nd rfl (.inl rfl))
    (vss_cons (vs_frz 3 (vs_if (vt_w (vw_or (vt_not (vt_val (ve_call c_law_is_emptied hr0 (by rfl) (va_cons (ve_call c_emptied hr0 (by rfl) (va_cons (ve_var (v5 _)) (va_cons (ve_var (v6 _)) (va_cons (ve_var (v1 _)) va_nil))) (alen_cons (alen_cons (alen_cons alen_nil)))) (va_cons (ve_var (v3 _)) (va_cons (ve_var (v6 _)) (va_cons (ve_var (v1 _)) va_nil)))) (alen_cons (alen_cons (alen_cons (alen_cons alen_nil))))))) (vw_or1 (vt_cmp (op_neB hu) r_ne (toO (ve_var (v5 _))) (vo_var (v3 _)) (nomark _)))))
    (vss_one (vs_ret ve_bl))
    vss_nil))
    (vss_one (vs_frz 3 (vs_if (vt_not (vt_val (ve_call c_law_is_emptied hr0 (by rfl) (va_cons (ve_call c_emptied hr0 (by rfl) (va_cons (ve_callTy call_tuple_of r_tuple (by rfl) B.tuple (by decide +kernel) (vo_cons (vo_var (v3 _)) vo_nil)) (va_cons (ve_var (v6 _)) (va_cons (ve_var (v1 _)) va_nil))) (alen_cons (alen_cons (alen_cons alen_nil)))) (va_cons (ve_var (v3 _)) (va_cons (ve_var (v6 _)) (va_cons (ve_var (v1 _)) va_nil)))) (alen_cons (alen_cons (alen_cons (alen_cons alen_nil)))))))
    (vss_one (vs_ret ve_bl))
    vss_nil)))))
    (vss_one (vs_frz 3 (vs_ret (ve_call c_law_is_row hr0 (by rfl) (va_cons (ve_call c_raised hr0 (by rfl) (va_cons (ve_callTy call_tuple_of r_tuple (by rfl) B.tuple (by decide +kernel) (vo_cons (toO (ve_var (v0 _))) vo_nil)) (va_cons (ve_var (v1 _)) va_nil)) (alen_cons (alen_cons alen_nil))) (va_cons (ve_var (v3 _)) va_nil)) (alen_cons (alen_cons alen_nil))))))))))))
theorem d_law_row_good {P : Program} {wd : World} {K : PySem.W.Frag} {mg : Str → Option Value} {base : Heap} {cl : Nat → ClsT} (B : Bt mg) (kk : Ks K cl) (a_law_row_good : At K mg "_law_row_good" s_law_row_good) (c_law_is_row : Def P wd K mg base cl 2 "_law_is_row" 2 F_law_is_row) (c_raised : Def P wd K mg base cl 1 "raised" 2 F_raised) (c_law_is_emptied : Def P wd K mg base cl 3 "_law_is_emptied" 4 F_law_is_emptied) (c_emptied : Def P wd K mg base cl 5 "emptied" 3 F_emptied) : Def P wd K mg base cl 6 "_law_row_good" 2 F_law_row_good :=
  def_of a_law_row_good sc_law_row_good (fun _ _ F => F.binds (ps := ["row", "priority"]) fun _ _ _ _ _ _ us hl => match us, hl with | [_, _], _ => rfl) fun f cdv A outer s H E G0 H0 sf hr => b_law_row_good (k := 5) B kk (c_law_is_row.mono (by decide)) (c_raised.mono (by decide)) (c_law_is_emptied.mono (by decide)) (c_emptied.mono (by decide)) hr

/-! law -/
abbrev s_law : Stmt := top 25
abbrev N_law : List Str := ["script", "head", "count", "width", "row", "near", "priority", "cells", "many", "which", "value", "k", "x", "v"]
theorem sc_law : FnScope N_law ["script"] (defScope s_law) := ⟨rfl, rfl, rfl, by decide +kernel, rfl, by decide +kernel, by decide +kernel⟩
def m_law : Sf :=
    (sSeq (sSet 1 (eCall digitsF (aCons (eCall cellF (aCons (eVar 0) (aCons (eC (.int 0)) aNil))) (aCons (fL (aLst (aCons (eC (.int 6)) (aCons (eC (.int 3)) (aCons (eC (.int 41)) (aCons (eC (.int 6)) (aCons (eC (.int 4)) (aCons (eC (.int 6)) (aCons (eC (.int 12)) aNil))))))))) aNil))))
    (sSeq (sSet 2 (eBin oAdd (eC (.int 1)) (eBin oIx (eVar 1) (eC (.int 0)))))
    (sSeq (sSet 3 (eBin oIx (fL (aLst (aCons (eC (.int 41)) (aCons (eC (.int 41)) (aCons (eC (.int 4)) aNil))))) (eBin oIx (eVar 1) (eC (.int 1)))))
    (sSeq (sSet 4 (fL (aArgs oSorted (aCons (eCall digitsF (aCons (eCall cellF (aCons (eVar 0) (aCons (eC (.int 1)) aNil))) (aCons (fL (aComp (aRng1 (aCons (eVar 2) aNil)) (.nm 11) tYesF (eVar 3))) aNil))) aNil))))
    (sSeq (sSet 5 (eBin oIx (eVar 4) (eBin oMod (eArgs oToInt (aCons (eBin oIx (eVar 1) (eC (.int 3))) aNil)) (eVar 2))))
    (sSeq (sSet 6 (eArgs oMax2 (aCons (eC (.int 0)) (aCons (eArgs oMin2 (aCons (eC (.int 40)) (aCons (eBin oIx (fL (aLst (aCons (eBin oIx (eVar 1) (eC (.int 2))) (aCons (eVar 5) (aCons (eBin oAdd (eVar 5) (eC (.int 1))) (aCons (eBin oSub (eVar 5) (eC (.int 1))) aNil)))))) (eBin oIx (eVar 1) (eC (.int 4)))) aNil))) aNil))))
    (sSeq (sSetN 7 (aCall digitsF (aCons (eCall cellF (aCons (eVar 0) (aCons (eC (.int 2)) aNil))) (aCons (fL (aLst (aCons (eC (.int 7)) (aCons (eC (.int 31)) (aCons (eC (.int 31)) (aCons (eC (.int 31)) (aCons (eC (.int 31)) (aCons (eC (.int 31)) (aCons (eC (.int 31)) aNil))))))))) aNil))))
    (sSeq (sIf (tB1 (eBin oEq (eBin oIx (eVar 1) (eC (.int 6))) (eC (.int 0))))
    (sSeq (sSet 8 (eCall digitsF (aCons (eCall cellF (aCons (eVar 0) (aCons (eC (.int 3)) aNil))) (aCons (fL (aBin oCatL (fL (aLst (aCons (eC (.int 2)) (aCons (eC (.int 40)) (aCons (eC (.int 31)) aNil))))) (fL (aComp (aRng1 (aCons (eC (.int 40)) aNil)) (.nm 13) tYesF (eC (.int 31)))))) aNil))))
    (sSeq (sSetF 7 (aBin oCatL (fL (aLst (aCons (eBin oAdd (eC (.int 39)) (eBin oIx (eVar 8) (eC (.int 0)))) aNil))) (fL (aComp (aItems (eSlA (eVar 8) (pSome (eC (.int 3))) pNo)) (.nm 12) tYesF (eBin oMod (eArgs oToInt (aCons (eVar 12) aNil)) (eArgs oMax2 (aCons (eC (.int 1)) (aCons (eBin oIx (eVar 8) (eC (.int 2))) aNil))))))))
    (sSto 7 (eBin oAdd (eC (.int 1)) (eBin oMod (eArgs oToInt (aCons (eBin oIx (eVar 8) (eC (.int 1))) aNil)) (eBin oIx (eOwn 7) (eC (.int 0))))) (eBin oIx (eVar 8) (eC (.int 2))))))
    sNext)
    (sSeq (sFor (aRng1 (aCons (eC (.int 7)) aNil)) (.nm 9)
    (sFor (aItems (fL (aBin oCatL (fL (aLst (aCons (eC (.int 0)) (aCons (eC (.int 1)) (aCons (eVar 6) aNil))))) (eVar 4)))) (.nm 10)
    (sIf (tNotF (tB1 (eCall F_law_is_signal (aCons (eCall F_signal (aCons (eVar 9) (aCons (eVar 10) aNil))) (aCons (eVar 9) (aCons (eVar 10) aNil))))))
    (sRet (eC (.bl false)))
    sNext)))
    (sSeq (sFrz 7 (sIf (tOrF (tNotF (tB1 (eCall F_law_row_good (aCons (eVar 4) (aCons (eVar 6) aNil))))) (tNotF (tB1 (eCall F_law_start_good (aCons (eVar 7) (aCons (eBin oAdd (eC (.int 1)) (eBin oIx (eVar 1) (eC (.int 5)))) aNil))))))
    (sRet (eC (.bl false)))
    sNext))
    (sFrz 7 (sRet (eAnd (eCall F_law_row_good (aCons (eVar 4) (aCons (eVar 6) aNil))) (eCall F_law_start_good (aCons (eVar 7) (aCons (eVar 2) aNil))))))))))))))))
def F_law : List D → Ret := runF 14 m_law
theorem b_law {P : Program} {wd : World} {K : PySem.W.Frag} {mg : Str → Option Value} {base : Heap} {cl : Nat → ClsT} {k : Nat} (B : Bt mg) (kk : Ks K cl) (c_law_digits : Def P wd K mg base cl k "_law_digits" 2 digitsF) (c_law_cell : Def P wd K mg base cl k "_law_cell" 2 cellF) (c_law_is_signal : Def P wd K mg base cl k "_law_is_signal" 3 F_law_is_signal) (c_signal : Def P wd K mg base cl k "signal" 2 F_signal) (c_law_row_good : Def P wd K mg base cl k "_law_row_good" 2 F_law_row_good) (c_law_start_good : Def P wd K mg base cl k "_law_start_good" 2 F_law_start_good)
    {f : Addr} {cdv : Value} {A : Around} {outer : List PySem.Env} {s : Shared} {H : Hp} {E : XK} {G0 H0 : Hp} {sf : Addr} (hr : Room k (A.deeper (envOfC "law" (defScope s_law) s.heap.objs.size f cdv))) :
    VSs ⟨cl, G0, H0, sf⟩ (XX P wd K mg base N_law "law" (defScope s_law) f cdv A outer s H E) (defBody s_law) (m_law) := by
  have hr0 := hr
  have hu : (XX P wd K mg base N_law "law" (defScope s_law) f cdv A outer s H E).A.units + 64 < cLine := hr.units
  have nd : (XX P wd K mg base N_law "law" (defScope s_law) f cdv A outer s H E).N.Nodup := sc_law.nd
  have v0 : ∀ pos, PE (XX P wd K mg base N_law "law" (defScope s_law) f cdv A outer s H E) (.Name "script" pos) (tVar 0) := fun _ => pv 0
  have v1 : ∀ pos, PE (XX P wd K mg base N_law "law" (defScope s_law) f cdv A outer s H E) (.Name "head" pos) (tVar 1) := fun _ => pv 1
  have v2 : ∀ pos, PE (XX P wd K mg base N_law "law" (defScope s_law) f cdv A outer s H E) (.Name "count" pos) (tVar 2) := fun _ => pv 2
  have v4 : ∀ pos, PE (XX P wd K mg base N_law "law" (defScope s_law) f cdv A outer s H E) (.Name "row" pos) (tVar 4) := fun _ => pv 4
  have v5 : ∀ pos, PE (XX P wd K mg base N_law "law" (defScope s_law) f cdv A outer s H E) (.Name "near" pos) (tVar 5) := fun _ => pv 5
  have v6 : ∀ pos, PE (XX P wd K mg base N_law "law" (defScope s_law) f cdv A outer s H E) (.Name "priority" pos) (tVar 6) := fun _ => pv 6
  have v7 : ∀ pos, PE (XX P wd K mg base N_law "law" (defScope s_law) f cdv A outer s H E) (.Name "cells" pos) (tVar 7) := fun _ => pv 7
  have v8 : ∀ pos, PE (XX P wd K mg base N_law "law" (defScope s_law) f cdv A outer s H E) (.Name "many" pos) (tVar 8) := fun _ => pv 8
  have v9 : ∀ pos, PE (XX P wd K mg base N_law "law" (defScope s_law) f cdv A outer s H E) (.Name "which" pos) (tVar 9) := fun _ => pv 9
  have v10 : ∀ pos, PE (XX P wd K mg base N_law "law" (defScope s_law) f cdv A outer s H E) (.Name "value" pos) (tVar 10) := fun _ => pv 10
  exact (vss_cons (vs_set nd rfl (.inl rfl) (ve_call c_law_digits hr0 (by rfl) (va_cons (ve_call c_law_cell hr0 (by rfl) (va_cons (ve_var (v0 _)) (va_cons ve_int va_nil)) (alen_cons (alen_cons alen_nil))) (va_cons (ofF (vf_lst (va_cons ve_int (va_cons ve_int (va_cons ve_int (va_cons ve_int (va_cons ve_int (va_cons ve_int (va_cons ve_int va_nil))))))))) va_nil)) (alen_cons (alen_cons alen_nil))))
    (vss_cons (vs_set nd rfl (.inl rfl) (ve_bin op_addD r_add (toO ve_int) (toO (ve_ix (toO (ve_var (v1 _))) (toO ve_int) (fun _ _ => rfl)))))
    (vss_cons (vs_set nd rfl (.inr rfl) (ve_ix (toO (ofF (vf_lst (va_cons ve_int (va_cons ve_int (va_cons ve_int va_nil)))))) (toO (ve_ix (toO (ve_var (v1 _))) (toO ve_int) (fun _ _ => rfl))) (fun _ _ => rfl)))
    (vss_cons (vs_set nd rfl (.inl rfl) (ofF (vf_callB cr_sortedI r_sorted (by rfl) B.sorted (by decide +kernel) (vo_cons (toO (ve_call c_law_digits hr0 (by rfl) (va_cons (ve_call c_law_cell hr0 (by rfl) (va_cons (ve_var (v0 _)) (va_cons ve_int va_nil)) (alen_cons (alen_cons alen_nil))) (va_cons (ofF (vf_comp rfl nd (vi_range1 (by rfl) B.range (vo_cons (toO (ve_var (v2 _))) vo_nil)) (blkOk_by (own := [("k", 11)]) (N := N_law) (sc := (defScope s_law)) (by decide +kernel)) rfl (fun _ _ _ _ _ => (vg_nm nd rfl (by first | exact .inl rfl | exact .inr rfl))) (fun _ _ _ _ _ => vts_nil) (fun _ _ _ _ _ => (ve_var (pv 3))))) va_nil)) (alen_cons (alen_cons alen_nil)))) vo_nil))))
    (vss_cons (vs_set nd rfl (.inl rfl) (ve_ix (toO (ve_var (v4 _))) (toO (ve_bin op_mod r_mod (toO (ve_callTy call_int1 r_toInt (by rfl) B.int (by decide +kernel) (vo_cons (toO (ve_ix (toO (ve_var (v1 _))) (toO ve_int) (fun _ _ => rfl))) vo_nil))) (toO (ve_var (v2 _))))) (fun _ _ => rfl)))
    (vss_cons (vs_set nd rfl (.inl rfl) (ve_callB (call_max2 rfl) r_max2 (by rfl) B.max (by decide +kernel) (vo_cons (toO ve_int) (vo_cons (toO (ve_callB (call_min2 rfl) r_min2 (by rfl) B.min (by decide +kernel) (vo_cons (toO ve_int) (vo_cons (toO (ve_ix (toO (ofF (vf_lst (va_cons (ve_ix (toO (ve_var (v1 _))) (toO ve_int) (fun _ _ => rfl)) (va_cons (ve_var (v5 _)) (va_cons (ve_bin op_addD r_add (toO (ve_var (v5 _))) (toO ve_int)) (va_cons (ve_bin op_sub r_sub (toO (ve_var (v5 _))) (toO ve_int)) va_nil))))))) (toO (ve_ix (toO (ve_var (v1 _))) (toO ve_int) (fun _ _ => rfl))) (fun _ _ => rfl))) vo_nil)))) vo_nil))))
    (vss_cons (vs_setN nd rfl (.inl rfl) (vn_call c_law_digits hr0 (by rfl) (va_cons (ve_call c_law_cell hr0 (by rfl) (va_cons (ve_var (v0 _)) (va_cons ve_int va_nil)) (alen_cons (alen_cons alen_nil))) (va_cons (ofF (vf_lst (va_cons ve_int (va_cons ve_int (va_cons ve_int (va_cons ve_int (va_cons ve_int (va_cons ve_int (va_cons ve_int va_nil))))))))) va_nil)) (alen_cons (alen_cons alen_nil))))
    (vss_cons (vs_if (vt_cmp (op_eqB hu) r_eq (toO (ve_ix (toO (ve_var (v1 _))) (toO ve_int) (fun _ _ => rfl))) (toO ve_int) (nomark _))
    (vss_cons (vs_set nd rfl (.inr rfl) (ve_call c_law_digits hr0 (by rfl) (va_cons (ve_call c_law_cell hr0 (by rfl) (va_cons (ve_var (v0 _)) (va_cons ve_int va_nil)) (alen_cons (alen_cons alen_nil))) (va_cons (ofF (vf_bin op_cat r_catL (toO (ofF (vf_lst (va_cons ve_int (va_cons ve_int (va_cons ve_int va_nil)))))) (toO (ofF (vf_comp rfl nd (vi_range1 (by rfl) B.range (vo_cons (toO ve_int) vo_nil)) (blkOk_by (own := [("v", 13)]) (N := N_law) (sc := (defScope s_law)) (by decide +kernel)) rfl (fun _ _ _ _ _ => (vg_nm nd rfl (by first | exact .inl rfl | exact .inr rfl))) (fun _ _ _ _ _ => vts_nil) (fun _ _ _ _ _ => ve_int)))))) va_nil)) (alen_cons (alen_cons alen_nil))))
    (vss_cons (vs_setF nd rfl (.inl rfl) (vf_bin op_cat r_catL (toO (ofF (vf_lst (va_cons (ve_bin op_addD r_add (toO ve_int) (toO (ve_ix (toO (ve_var (v8 _))) (toO ve_int) (fun _ _ => rfl)))) va_nil)))) (toO (ofF (vf_comp rfl nd (vi_items (ve_slA (toO (ve_var (v8 _))) (vp_some (toO ve_int)) vp_no)) (blkOk_by (own := [("x", 12)]) (N := N_law) (sc := (defScope s_law)) (by decide +kernel)) rfl (fun _ _ _ _ _ => (vg_nm nd rfl (by first | exact .inl rfl | exact .inr rfl))) (fun _ _ _ _ _ => vts_nil) (fun _ _ _ _ _ => (ve_bin op_mod r_mod (toO (ve_callTy call_int1 r_toInt (by rfl) B.int (by decide +kernel) (vo_cons (toO (ve_var (pv 12))) vo_nil))) (toO (ve_callB (call_max2 rfl) r_max2 (by rfl) B.max (by decide +kernel) (vo_cons (toO ve_int) (vo_cons (toO (ve_ix (toO (ve_var (pv 8))) (toO ve_int) (fun _ _ => rfl))) vo_nil)))))))))))
    (vss_one (vs_sto (v7 _) (ve_bin op_addD r_add (toO ve_int) (toO (ve_bin op_mod r_mod (toO (ve_callTy call_int1 r_toInt (by rfl) B.int (by decide +kernel) (vo_cons (toO (ve_ix (toO (ve_var (v8 _))) (toO ve_int) (fun _ _ => rfl))) vo_nil))) (toO (ve_ix (vo_var (v7 _)) (toO ve_int) (fun _ _ => rfl)))))) (ve_ix (toO (ve_var (v8 _))) (toO ve_int) (fun _ _ => rfl))))))
    vss_nil)
    (vss_cons (vs_for PassesOwn.never rfl (vi_range1 (by rfl) B.range (vo_cons (toO ve_int) vo_nil)) (vg_nm nd rfl (.inl rfl))
    (vss_one (vs_for PassesOwn.never rfl (vi_items (ofF (vf_bin op_cat r_catL (toO (ofF (vf_lst (va_cons ve_int (va_cons ve_int (va_cons (ve_var (v6 _)) va_nil)))))) (toO (ve_var (v4 _)))))) (vg_nm nd rfl (.inl rfl))
    (vss_one (vs_if (vt_not (vt_val (ve_call c_law_is_signal hr0 (by rfl) (va_cons (ve_call c_signal hr0 (by rfl) (va_cons (ve_var (v9 _)) (va_cons (ve_var (v10 _)) va_nil)) (alen_cons (alen_cons alen_nil))) (va_cons (ve_var (v9 _)) (va_cons (ve_var (v10 _)) va_nil))) (alen_cons (alen_cons (alen_cons alen_nil))))))
    (vss_one (vs_ret ve_bl))
    vss_nil)))))
    (vss_cons (vs_frz 7 (vs_if (vt_w (vw_or (vt_not (vt_val (ve_call c_law_row_good hr0 (by rfl) (va_cons (ve_var (v4 _)) (va_cons (ve_var (v6 _)) va_nil)) (alen_cons (alen_cons alen_nil))))) (vw_or1 (vt_not (vt_val (ve_call c_law_start_good hr0 (by rfl) (va_cons (ve_var (v7 _)) (va_cons (ve_bin op_addD r_add (toO ve_int) (toO (ve_ix (toO (ve_var (v1 _))) (toO ve_int) (fun _ _ => rfl)))) va_nil)) (alen_cons (alen_cons alen_nil))))))))
    (vss_one (vs_ret ve_bl))
    vss_nil))
    (vss_one (vs_frz 7 (vs_ret (ve_and (ve_call c_law_row_good hr0 (by rfl) (va_cons (ve_var (v4 _)) (va_cons (ve_var (v6 _)) va_nil)) (alen_cons (alen_cons alen_nil))) (ve_one (ve_call c_law_start_good hr0 (by rfl) (va_cons (ve_var (v7 _)) (va_cons (ve_var (v2 _)) va_nil)) (alen_cons (alen_cons alen_nil))))))))))))))))))
theorem ok_law {P : Program} {wd : World} {K : PySem.W.Frag} {mg : Str → Option Value} {base : Heap} {cl : Nat → ClsT} (B : Bt mg) (kk : Ks K cl) (c_law_digits : Def P wd K mg base cl 1 "_law_digits" 2 digitsF) (c_law_cell : Def P wd K mg base cl 1 "_law_cell" 2 cellF) (c_law_is_signal : Def P wd K mg base cl 2 "_law_is_signal" 3 F_law_is_signal) (c_signal : Def P wd K mg base cl 1 "signal" 2 F_signal) (c_law_row_good : Def P wd K mg base cl 6 "_law_row_good" 2 F_law_row_good) (c_law_start_good : Def P wd K mg base cl 8 "_law_start_good" 2 F_law_start_good) {fl : Addr} {fd : FuncData} (Fn : Fun K "law" "law" s_law fl fd) : FnOk P wd K mg base CX0 9 fl fd ["script"] (spF K cl 1 F_law) :=
  fn_ok Fn sc_law fun cdv A outer s H E G0 H0 sf hr => b_law (k := 8) B kk (c_law_digits.mono (by decide)) (c_law_cell.mono (by decide)) (c_law_is_signal.mono (by decide)) (c_signal.mono (by decide)) (c_law_row_good.mono (by decide)) (c_law_start_good.mono (by decide)) hr

/-! the row's own end -/
def clsOf (cs : List ClsT) (i : Nat) : ClsT := cs.getD i ⟨0, []⟩
theorem all_mk {l : PySem.W.OpenLaw} {w : World} {K : PySem.W.Frag} {h : Heap} {mg : Str → Option Value} {fa C0 f1 f2 p2 f3 p3 f4 f5 f6 f7 f8 f9 f10 f11 f12 f13 f14 f15 f16 f17 f18 f19 f20 : Addr} (X : K.In h) (G : h.Ns mainGlobals mg) (hfa : mg "law" = some (.ref fa))
    {od1 an1 od2 an2 od3 an3 od4 an4 od5 an5 od6 an6 od7 an7 od8 an8 od9 an9 od10 an10 od11 an11 od12 an12 od13 an13 od14 an14 od15 an15 od16 an16 od17 an17 od18 an18 od19 an19 od20 an20 : Option Addr} {sl1 sl2 sl3 sl4 sl5 sl6 sl7 sl8 sl9 sl10 sl11 sl12 sl13 sl14 sl15 sl16 sl17 sl18 sl19 sl20 : Array (Option Value)} {oc1 kV1 dc1 pm1 cd1 ct1 oc2 kV2 dc2 pm2 cd2 ct2 oc3 kV3 dc3 pm3 cd3 ct3 oc4 kV4 dc4 pm4 cd4 ct4 oc5 kV5 dc5 pm5 cd5 ct5 oc6 kV6 dc6 pm6 cd6 ct6 oc7 kV7 dc7 pm7 cd7 ct7 oc8 kV8 dc8 pm8 cd8 ct8 oc9 kV9 dc9 pm9 cd9 ct9 oc10 kV10 dc10 pm10 cd10 ct10 oc11 kV11 dc11 pm11 cd11 ct11 oc12 kV12 dc12 pm12 cd12 ct12 oc13 kV13 dc13 pm13 cd13 ct13 oc14 kV14 dc14 pm14 cd14 ct14 oc15 kV15 dc15 pm15 cd15 ct15 oc16 kV16 dc16 pm16 cd16 ct16 oc17 kV17 dc17 pm17 cd17 ct17 oc18 kV18 dc18 pm18 cd18 ct18 oc19 kV19 dc19 pm19 cd19 ct19 oc20 kV20 dc20 pm20 cd20 ct20 : Value} {rest2 rest3 : List Value} 
    (aC0 : PySem.W.nsIn K mainGlobals "Game" = some (some (.ref C0)))
    (pg0 : PySem.W.plainGet K C0 Str.empty = true)
    (hd0 : PySem.W.hasDictIn K C0 = true)
    (po0 : PySem.W.plainOver K C0 = true)
    (sa0 : PySem.W.findIn K (.ref C0) "__setattr__" = some (some (.builtin "object.__setattr__")))
    (nf0_0 : PySem.W.findIn K (.ref C0) "owners" = some none)
    (nf0_1 : PySem.W.findIn K (.ref C0) "priorities" = some none)
    (nf0_2 : PySem.W.findIn K (.ref C0) "successors" = some none)
    (nf0_3 : PySem.W.findIn K (.ref C0) "height" = some none)
    (a1 : PySem.W.nsIn K mainGlobals "frozen" = some (some (.ref f1)))
    (l1 : K.lookup f1 = some ⟨oc1, od1, .func (PySem.W.fnOf "frozen" "frozen" (defArgs s_frozen) (defBody s_frozen) (defScope s_frozen) .none kV1 dc1 pm1 an1 cd1 ct1), sl1⟩)
    (c1 : PySem.W.codeIn K cd1 "frozen" = true)
    (k1 : PySem.W.keepIn K (.ref f1) = true)
    (a2 : PySem.W.findIn K (.ref C0) "top" = some (some (.ref p2)))
    (g2 : PySem.W.specialIn K (.ref p2) "__get__" = some (some (.builtin "property.__get__")))
    (t2 : PySem.W.takesIn K (.ref p2) = some true)
    (r2 : PySem.W.recIn K p2 "property" = some (.ref f2 :: rest2))
    (l2 : K.lookup f2 = some ⟨oc2, od2, .func (PySem.W.fnOf "top" "Game.top" (defArgs s_Game_top) (defBody s_Game_top) (defScope s_Game_top) .none kV2 dc2 pm2 an2 cd2 ct2), sl2⟩)
    (c2 : PySem.W.codeIn K cd2 "Game.top" = true)
    (k2 : PySem.W.keepIn K (.ref f2) = true)
    (a3 : PySem.W.findIn K (.ref C0) "ceiling" = some (some (.ref p3)))
    (g3 : PySem.W.specialIn K (.ref p3) "__get__" = some (some (.builtin "property.__get__")))
    (t3 : PySem.W.takesIn K (.ref p3) = some true)
    (r3 : PySem.W.recIn K p3 "property" = some (.ref f3 :: rest3))
    (l3 : K.lookup f3 = some ⟨oc3, od3, .func (PySem.W.fnOf "ceiling" "Game.ceiling" (defArgs s_Game_ceiling) (defBody s_Game_ceiling) (defScope s_Game_ceiling) .none kV3 dc3 pm3 an3 cd3 ct3), sl3⟩)
    (c3 : PySem.W.codeIn K cd3 "Game.ceiling" = true)
    (k3 : PySem.W.keepIn K (.ref f3) = true)
    (a4 : PySem.W.nsIn K mainGlobals "start_row" = some (some (.ref f4)))
    (l4 : K.lookup f4 = some ⟨oc4, od4, .func (PySem.W.fnOf "start_row" "start_row" (defArgs s_start_row) (defBody s_start_row) (defScope s_start_row) .none kV4 dc4 pm4 an4 cd4 ct4), sl4⟩)
    (c4 : PySem.W.codeIn K cd4 "start_row" = true)
    (k4 : PySem.W.keepIn K (.ref f4) = true)
    (a5 : PySem.W.nsIn K mainGlobals "raised" = some (some (.ref f5)))
    (l5 : K.lookup f5 = some ⟨oc5, od5, .func (PySem.W.fnOf "raised" "raised" (defArgs s_raised) (defBody s_raised) (defScope s_raised) .none kV5 dc5 pm5 an5 cd5 ct5), sl5⟩)
    (c5 : PySem.W.codeIn K cd5 "raised" = true)
    (k5 : PySem.W.keepIn K (.ref f5) = true)
    (a6 : PySem.W.nsIn K mainGlobals "emptied" = some (some (.ref f6)))
    (l6 : K.lookup f6 = some ⟨oc6, od6, .func (PySem.W.fnOf "emptied" "emptied" (defArgs s_emptied) (defBody s_emptied) (defScope s_emptied) .none kV6 dc6 pm6 an6 cd6 ct6), sl6⟩)
    (c6 : PySem.W.codeIn K cd6 "emptied" = true)
    (k6 : PySem.W.keepIn K (.ref f6) = true)
    (a7 : PySem.W.nsIn K mainGlobals "signal" = some (some (.ref f7)))
    (l7 : K.lookup f7 = some ⟨oc7, od7, .func (PySem.W.fnOf "signal" "signal" (defArgs s_signal) (defBody s_signal) (defScope s_signal) .none kV7 dc7 pm7 an7 cd7 ct7), sl7⟩)
    (c7 : PySem.W.codeIn K cd7 "signal" = true)
    (k7 : PySem.W.keepIn K (.ref f7) = true)
    (a8 : PySem.W.nsIn K mainGlobals "is_number" = some (some (.ref f8)))
    (l8 : K.lookup f8 = some ⟨oc8, od8, .func (PySem.W.fnOf "is_number" "is_number" (defArgs s_is_number) (defBody s_is_number) (defScope s_is_number) .none kV8 dc8 pm8 an8 cd8 ct8), sl8⟩)
    (c8 : PySem.W.codeIn K cd8 "is_number" = true)
    (k8 : PySem.W.keepIn K (.ref f8) = true)
    (a9 : PySem.W.nsIn K mainGlobals "is_between" = some (some (.ref f9)))
    (l9 : K.lookup f9 = some ⟨oc9, od9, .func (PySem.W.fnOf "is_between" "is_between" (defArgs s_is_between) (defBody s_is_between) (defScope s_is_between) .none kV9 dc9 pm9 an9 cd9 ct9), sl9⟩)
    (c9 : PySem.W.codeIn K cd9 "is_between" = true)
    (k9 : PySem.W.keepIn K (.ref f9) = true)
    (a10 : PySem.W.nsIn K mainGlobals "is_successor_row" = some (some (.ref f10)))
    (l10 : K.lookup f10 = some ⟨oc10, od10, .func (PySem.W.fnOf "is_successor_row" "is_successor_row" (defArgs s_is_successor_row) (defBody s_is_successor_row) (defScope s_is_successor_row) .none kV10 dc10 pm10 an10 cd10 ct10), sl10⟩)
    (c10 : PySem.W.codeIn K cd10 "is_successor_row" = true)
    (k10 : PySem.W.keepIn K (.ref f10) = true)
    (mk0 : PySem.W.makesIn K C0 = true)
    (a11 : PySem.W.findIn K (.ref C0) "__init__" = some (some (.ref f11)))
    (i11 : PySem.W.isFn K (.ref f11) = true)
    (kc0 : PySem.W.keepIn K (.ref C0) = true)
    (l11 : K.lookup f11 = some ⟨oc11, od11, .func (PySem.W.fnOf "__init__" "Game.__init__" (defArgs s_Game_init) (defBody s_Game_init) (defScope s_Game_init) .none kV11 dc11 pm11 an11 cd11 ct11), sl11⟩)
    (c11 : PySem.W.codeIn K cd11 "Game.__init__" = true)
    (k11 : PySem.W.keepIn K (.ref f11) = true)
    (a12 : PySem.W.nsIn K mainGlobals "_law_whole" = some (some (.ref f12)))
    (l12 : K.lookup f12 = some ⟨oc12, od12, .func (PySem.W.fnOf "_law_whole" "_law_whole" (defArgs s_law_whole) (defBody s_law_whole) (defScope s_law_whole) .none kV12 dc12 pm12 an12 cd12 ct12), sl12⟩)
    (c12 : PySem.W.codeIn K cd12 "_law_whole" = true)
    (k12 : PySem.W.keepIn K (.ref f12) = true)
    (a13 : PySem.W.nsIn K mainGlobals "_law_cell" = some (some (.ref f13)))
    (l13 : K.lookup f13 = some ⟨oc13, od13, .func (PySem.W.fnOf "_law_cell" "_law_cell" (defArgs s_law_cell) (defBody s_law_cell) (defScope s_law_cell) .none kV13 dc13 pm13 an13 cd13 ct13), sl13⟩)
    (c13 : PySem.W.codeIn K cd13 "_law_cell" = true)
    (k13 : PySem.W.keepIn K (.ref f13) = true)
    (a14 : PySem.W.nsIn K mainGlobals "_law_digits" = some (some (.ref f14)))
    (l14 : K.lookup f14 = some ⟨oc14, od14, .func (PySem.W.fnOf "_law_digits" "_law_digits" (defArgs s_law_digits) (defBody s_law_digits) (defScope s_law_digits) .none kV14 dc14 pm14 an14 cd14 ct14), sl14⟩)
    (c14 : PySem.W.codeIn K cd14 "_law_digits" = true)
    (k14 : PySem.W.keepIn K (.ref f14) = true)
    (a15 : PySem.W.nsIn K mainGlobals "_law_is_row" = some (some (.ref f15)))
    (l15 : K.lookup f15 = some ⟨oc15, od15, .func (PySem.W.fnOf "_law_is_row" "_law_is_row" (defArgs s_law_is_row) (defBody s_law_is_row) (defScope s_law_is_row) .none kV15 dc15 pm15 an15 cd15 ct15), sl15⟩)
    (c15 : PySem.W.codeIn K cd15 "_law_is_row" = true)
    (k15 : PySem.W.keepIn K (.ref f15) = true)
    (a16 : PySem.W.nsIn K mainGlobals "_law_is_emptied" = some (some (.ref f16)))
    (l16 : K.lookup f16 = some ⟨oc16, od16, .func (PySem.W.fnOf "_law_is_emptied" "_law_is_emptied" (defArgs s_law_is_emptied) (defBody s_law_is_emptied) (defScope s_law_is_emptied) .none kV16 dc16 pm16 an16 cd16 ct16), sl16⟩)
    (c16 : PySem.W.codeIn K cd16 "_law_is_emptied" = true)
    (k16 : PySem.W.keepIn K (.ref f16) = true)
    (a17 : PySem.W.nsIn K mainGlobals "_law_is_signal" = some (some (.ref f17)))
    (l17 : K.lookup f17 = some ⟨oc17, od17, .func (PySem.W.fnOf "_law_is_signal" "_law_is_signal" (defArgs s_law_is_signal) (defBody s_law_is_signal) (defScope s_law_is_signal) .none kV17 dc17 pm17 an17 cd17 ct17), sl17⟩)
    (c17 : PySem.W.codeIn K cd17 "_law_is_signal" = true)
    (k17 : PySem.W.keepIn K (.ref f17) = true)
    (a18 : PySem.W.nsIn K mainGlobals "_law_start_good" = some (some (.ref f18)))
    (l18 : K.lookup f18 = some ⟨oc18, od18, .func (PySem.W.fnOf "_law_start_good" "_law_start_good" (defArgs s_law_start_good) (defBody s_law_start_good) (defScope s_law_start_good) .none kV18 dc18 pm18 an18 cd18 ct18), sl18⟩)
    (c18 : PySem.W.codeIn K cd18 "_law_start_good" = true)
    (k18 : PySem.W.keepIn K (.ref f18) = true)
    (a19 : PySem.W.nsIn K mainGlobals "_law_row_good" = some (some (.ref f19)))
    (l19 : K.lookup f19 = some ⟨oc19, od19, .func (PySem.W.fnOf "_law_row_good" "_law_row_good" (defArgs s_law_row_good) (defBody s_law_row_good) (defScope s_law_row_good) .none kV19 dc19 pm19 an19 cd19 ct19), sl19⟩)
    (c19 : PySem.W.codeIn K cd19 "_law_row_good" = true)
    (k19 : PySem.W.keepIn K (.ref f19) = true)
    (a20 : PySem.W.nsIn K mainGlobals "law" = some (some (.ref f20)))
    (l20 : K.lookup f20 = some ⟨oc20, od20, .func (PySem.W.fnOf "law" "law" (defArgs s_law) (defBody s_law) (defScope s_law) .none kV20 dc20 pm20 an20 cd20 ct20), sl20⟩)
    (c20 : PySem.W.codeIn K cd20 "law" = true)
    (k20 : PySem.W.keepIn K (.ref f20) = true)
    (z_len : PySem.W.nsIn K mainGlobals "len" = some none)
    (z_int : PySem.W.nsIn K mainGlobals "int" = some none)
    (z_bool : PySem.W.nsIn K mainGlobals "bool" = some none)
    (z_str : PySem.W.nsIn K mainGlobals "str" = some none)
    (z_range : PySem.W.nsIn K mainGlobals "range" = some none)
    (z_isinstance : PySem.W.nsIn K mainGlobals "isinstance" = some none)
    (z_tuple : PySem.W.nsIn K mainGlobals "tuple" = some none)
    (z_list : PySem.W.nsIn K mainGlobals "list" = some none)
    (z_dict : PySem.W.nsIn K mainGlobals "dict" = some none)
    (z_set : PySem.W.nsIn K mainGlobals "set" = some none)
    (z_max : PySem.W.nsIn K mainGlobals "max" = some none)
    (z_min : PySem.W.nsIn K mainGlobals "min" = some none)
    (z_sum : PySem.W.nsIn K mainGlobals "sum" = some none)
    (z_any : PySem.W.nsIn K mainGlobals "any" = some none)
    (z_all : PySem.W.nsIn K mainGlobals "all" = some none)
    (z_sorted : PySem.W.nsIn K mainGlobals "sorted" = some none)
    (z_enumerate : PySem.W.nsIn K mainGlobals "enumerate" = some none)
    (z_zip : PySem.W.nsIn K mainGlobals "zip" = some none)
    (z_reversed : PySem.W.nsIn K mainGlobals "reversed" = some none)
    (z_repr : PySem.W.nsIn K mainGlobals "repr" = some none)
    : ∃ (cl : Nat → ClsT) (fd : FuncData), (∀ (s : Shared) (v : Value), BindsTo s fd ⟨[v], []⟩ [("script", v)]) ∧ ∀ base : Heap, K.In base → base.Ns mainGlobals mg → FnOk l.prog w K mg base CX0 9 fa fd ["script"] (spF K cl 1 F_law) := by
  have e := hfa.symm.trans (PySem.W.mg_of X G a20)
  cases e
  have B : Bt mg := ⟨PySem.W.mg_none_of X G z_len, PySem.W.mg_none_of X G z_int, PySem.W.mg_none_of X G z_bool, PySem.W.mg_none_of X G z_str, PySem.W.mg_none_of X G z_range, PySem.W.mg_none_of X G z_isinstance, PySem.W.mg_none_of X G z_tuple, PySem.W.mg_none_of X G z_list, PySem.W.mg_none_of X G z_dict, PySem.W.mg_none_of X G z_set, PySem.W.mg_none_of X G z_max, PySem.W.mg_none_of X G z_min, PySem.W.mg_none_of X G z_sum, PySem.W.mg_none_of X G z_any, PySem.W.mg_none_of X G z_all, PySem.W.mg_none_of X G z_sorted, PySem.W.mg_none_of X G z_enumerate, PySem.W.mg_none_of X G z_zip, PySem.W.mg_none_of X G z_reversed, PySem.W.mg_none_of X G z_repr⟩
  have kc_Game : ClsOk K (clsOf [⟨C0, ["owners", "priorities", "successors", "height"]⟩] 0) ["owners", "priorities", "successors", "height"] := ⟨⟨pg0, hd0, po0, sa0⟩, rfl, fun f hf => by
    simp only [List.mem_cons, List.not_mem_nil, or_false] at hf
    rcases hf with rfl | rfl | rfl | rfl
    · exact nf0_0
    · exact nf0_1
    · exact nf0_2
    · exact nf0_3, by decide +kernel, by decide⟩
  have kk : Ks K (clsOf [⟨C0, ["owners", "priorities", "successors", "height"]⟩]) := ⟨kc_Game⟩
  have F1 := fun_mk (st := s_frozen) l1 c1 k1
  have F2 := fun_mk (st := s_Game_top) l2 c2 k2
  have F3 := fun_mk (st := s_Game_ceiling) l3 c3 k3
  have F4 := fun_mk (st := s_start_row) l4 c4 k4
  have F5 := fun_mk (st := s_raised) l5 c5 k5
  have F6 := fun_mk (st := s_emptied) l6 c6 k6
  have F7 := fun_mk (st := s_signal) l7 c7 k7
  have F8 := fun_mk (st := s_is_number) l8 c8 k8
  have F9 := fun_mk (st := s_is_between) l9 c9 k9
  have F10 := fun_mk (st := s_is_successor_row) l10 c10 k10
  have F11 := fun_mk (st := s_Game_init) l11 c11 k11
  have F12 := fun_mk (st := s_law_whole) l12 c12 k12
  have F13 := fun_mk (st := s_law_cell) l13 c13 k13
  have F14 := fun_mk (st := s_law_digits) l14 c14 k14
  have F15 := fun_mk (st := s_law_is_row) l15 c15 k15
  have F16 := fun_mk (st := s_law_is_emptied) l16 c16 k16
  have F17 := fun_mk (st := s_law_is_signal) l17 c17 k17
  have F18 := fun_mk (st := s_law_start_good) l18 c18 k18
  have F19 := fun_mk (st := s_law_row_good) l19 c19 k19
  have F20 := fun_mk (st := s_law) l20 c20 k20
  have a_frozen : At K mg "frozen" s_frozen := ⟨⟨_, _, PySem.W.mg_of X G a1, F1⟩⟩
  have a_Game_top : AtP K (clsOf [⟨C0, ["owners", "priorities", "successors", "height"]⟩] 0).addr "top" "Game.top" s_Game_top := ⟨⟨_, _, _, ⟨a2, g2, t2, ⟨_, r2⟩⟩, F2⟩⟩
  have a_Game_ceiling : AtP K (clsOf [⟨C0, ["owners", "priorities", "successors", "height"]⟩] 0).addr "ceiling" "Game.ceiling" s_Game_ceiling := ⟨⟨_, _, _, ⟨a3, g3, t3, ⟨_, r3⟩⟩, F3⟩⟩
  have a_start_row : At K mg "start_row" s_start_row := ⟨⟨_, _, PySem.W.mg_of X G a4, F4⟩⟩
  have a_raised : At K mg "raised" s_raised := ⟨⟨_, _, PySem.W.mg_of X G a5, F5⟩⟩
  have a_emptied : At K mg "emptied" s_emptied := ⟨⟨_, _, PySem.W.mg_of X G a6, F6⟩⟩
  have a_signal : At K mg "signal" s_signal := ⟨⟨_, _, PySem.W.mg_of X G a7, F7⟩⟩
  have a_is_number : At K mg "is_number" s_is_number := ⟨⟨_, _, PySem.W.mg_of X G a8, F8⟩⟩
  have a_is_between : At K mg "is_between" s_is_between := ⟨⟨_, _, PySem.W.mg_of X G a9, F9⟩⟩
  have a_is_successor_row : At K mg "is_successor_row" s_is_successor_row := ⟨⟨_, _, PySem.W.mg_of X G a10, F10⟩⟩
  have a_Game_init : AtI K mg (clsOf [⟨C0, ["owners", "priorities", "successors", "height"]⟩] 0).addr "Game" "Game.__init__" s_Game_init := ⟨⟨_, _, PySem.W.mg_of X G aC0, ⟨mk0, a11, i11, kc0⟩, F11⟩⟩
  have a_law_whole : At K mg "_law_whole" s_law_whole := ⟨⟨_, _, PySem.W.mg_of X G a12, F12⟩⟩
  have a_law_cell : At K mg "_law_cell" s_law_cell := ⟨⟨_, _, PySem.W.mg_of X G a13, F13⟩⟩
  have a_law_digits : At K mg "_law_digits" s_law_digits := ⟨⟨_, _, PySem.W.mg_of X G a14, F14⟩⟩
  have a_law_is_row : At K mg "_law_is_row" s_law_is_row := ⟨⟨_, _, PySem.W.mg_of X G a15, F15⟩⟩
  have a_law_is_emptied : At K mg "_law_is_emptied" s_law_is_emptied := ⟨⟨_, _, PySem.W.mg_of X G a16, F16⟩⟩
  have a_law_is_signal : At K mg "_law_is_signal" s_law_is_signal := ⟨⟨_, _, PySem.W.mg_of X G a17, F17⟩⟩
  have a_law_start_good : At K mg "_law_start_good" s_law_start_good := ⟨⟨_, _, PySem.W.mg_of X G a18, F18⟩⟩
  have a_law_row_good : At K mg "_law_row_good" s_law_row_good := ⟨⟨_, _, PySem.W.mg_of X G a19, F19⟩⟩
  refine ⟨clsOf [⟨C0, ["owners", "priorities", "successors", "height"]⟩], PySem.W.fnOf "law" "law" (defArgs s_law) (defBody s_law) (defScope s_law) .none kV20 dc20 pm20 an20 cd20 ct20, fun s v => .of_eq rfl, fun base _ _ => ?_⟩
  have c_frozen : Def l.prog w K mg base (clsOf [⟨C0, ["owners", "priorities", "successors", "height"]⟩]) 4 "frozen" 1 (frozenF 4) := d_frozen B kk a_frozen
  have c_Game_top : PrD l.prog w K mg base (clsOf [⟨C0, ["owners", "priorities", "successors", "height"]⟩]) 1 0 "top" Game_topF := d_Game_top B kk a_Game_top
  have c_Game_ceiling : PrD l.prog w K mg base (clsOf [⟨C0, ["owners", "priorities", "successors", "height"]⟩]) 3 0 "ceiling" Game_ceilingF := d_Game_ceiling B kk a_Game_ceiling c_Game_top
  have c_start_row : Def l.prog w K mg base (clsOf [⟨C0, ["owners", "priorities", "successors", "height"]⟩]) 5 "start_row" 2 F_start_row := d_start_row B kk a_start_row c_Game_ceiling
  have c_raised : Def l.prog w K mg base (clsOf [⟨C0, ["owners", "priorities", "successors", "height"]⟩]) 1 "raised" 2 F_raised := d_raised B kk a_raised
  have c_emptied : Def l.prog w K mg base (clsOf [⟨C0, ["owners", "priorities", "successors", "height"]⟩]) 5 "emptied" 3 F_emptied := d_emptied B kk a_emptied c_frozen
  have c_signal : Def l.prog w K mg base (clsOf [⟨C0, ["owners", "priorities", "successors", "height"]⟩]) 1 "signal" 2 F_signal := d_signal B kk a_signal
  have c_is_number : Def l.prog w K mg base (clsOf [⟨C0, ["owners", "priorities", "successors", "height"]⟩]) 1 "is_number" 1 is_numberF := d_is_number B kk a_is_number
  have c_is_between : Def l.prog w K mg base (clsOf [⟨C0, ["owners", "priorities", "successors", "height"]⟩]) 2 "is_between" 3 is_betweenF := d_is_between B kk a_is_between c_is_number
  have c_is_successor_row : Def l.prog w K mg base (clsOf [⟨C0, ["owners", "priorities", "successors", "height"]⟩]) 3 "is_successor_row" 2 is_successor_rowF := d_is_successor_row B kk a_is_successor_row c_is_between
  have c_Game_init : MkD l.prog w K mg base (clsOf [⟨C0, ["owners", "priorities", "successors", "height"]⟩]) 6 0 "Game" 3 Game_initF := d_Game_init B kk a_Game_init c_frozen c_is_between c_is_successor_row c_Game_top
  have c_law_whole : Def l.prog w K mg base (clsOf [⟨C0, ["owners", "priorities", "successors", "height"]⟩]) 1 "_law_whole" 1 wholeF := d_law_whole B kk a_law_whole
  have c_law_cell : Def l.prog w K mg base (clsOf [⟨C0, ["owners", "priorities", "successors", "height"]⟩]) 1 "_law_cell" 2 cellF := d_law_cell B kk a_law_cell
  have c_law_digits : Def l.prog w K mg base (clsOf [⟨C0, ["owners", "priorities", "successors", "height"]⟩]) 1 "_law_digits" 2 digitsF := d_law_digits B kk a_law_digits
  have c_law_is_row : Def l.prog w K mg base (clsOf [⟨C0, ["owners", "priorities", "successors", "height"]⟩]) 2 "_law_is_row" 2 F_law_is_row := d_law_is_row B kk a_law_is_row c_law_whole
  have c_law_is_emptied : Def l.prog w K mg base (clsOf [⟨C0, ["owners", "priorities", "successors", "height"]⟩]) 3 "_law_is_emptied" 4 F_law_is_emptied := d_law_is_emptied B kk a_law_is_emptied c_law_whole c_law_is_row
  have c_law_is_signal : Def l.prog w K mg base (clsOf [⟨C0, ["owners", "priorities", "successors", "height"]⟩]) 2 "_law_is_signal" 3 F_law_is_signal := d_law_is_signal B kk a_law_is_signal c_law_whole
  have c_law_start_good : Def l.prog w K mg base (clsOf [⟨C0, ["owners", "priorities", "successors", "height"]⟩]) 8 "_law_start_good" 2 F_law_start_good := d_law_start_good B kk a_law_start_good c_Game_init c_law_is_row c_start_row
  have c_law_row_good : Def l.prog w K mg base (clsOf [⟨C0, ["owners", "priorities", "successors", "height"]⟩]) 6 "_law_row_good" 2 F_law_row_good := d_law_row_good B kk a_law_row_good c_law_is_row c_raised c_law_is_emptied c_emptied
  exact ok_law B kk c_law_digits c_law_cell c_law_is_signal c_signal c_law_row_good c_law_start_good F20
end Lw

namespace Lw
open PySem PySem.Spec PyProof.Rows L2 Fw
theorem is_row_ok {ns : List Int} (h : ns.length ≤ 1000) : F_law_is_row [.tup (ns.map .int), .lst (ns.map .int)] = .ok (.bl true) := by
  obtain ⟨c, e⟩ := loop_checks (j := 2) (F := (sIf (tOrF (tNotF (tB1 (eCall wholeF (aCons (eBin oIx (eVar 0) (eVar 2)) aNil)))) (tB1 (eBin oNe (eBin oIx (eVar 0) (eVar 2)) (eBin oIx (eVar 1) (eVar 2)))))
    (sRet (eC (.bl false))) sNext)) (ds := rangeD 0 ns.length) (ρ := [.sh (.tup (ns.map .int)), .sh (.lst (ns.map .int)), .no]) (by
    intro i d hi
    obtain ⟨hi2, rfl⟩ := rangeD_get hi
    simp -implicitDefEqProofs [ixD_nat, hi2, whole_int])
  have hr := rng1_n (n := ns.length) (by omega)
  simp -implicitDefEqProofs [F_law_is_row, runF, m_law_is_row, startR, hr, e]
def sig (w v : Int) : Int := if w = 0 then 1 else 2 * w + v % 2
theorem signal_ok (w v : Int) : F_signal [.int w, .int v] = .ok (.int (sig w v)) := by
  by_cases h : w = 0 <;> simp -implicitDefEqProofs [F_signal, runF, m_signal, startR, h, sig]
theorem is_signal_ok (w v : Int) (hw : 0 ≤ w) : F_law_is_signal [.int (sig w v), .int w, .int v] = .ok (.bl true) := by
  by_cases h : w = 0
  · simp -implicitDefEqProofs [F_law_is_signal, runF, m_law_is_signal, startR, h, whole_int, sig]
  · have h1 : 0 < w := by omega
    have h2 : 2 * w + v % 2 = w + w + (v - v / 2 * 2) := by omega
    simp -implicitDefEqProofs [F_law_is_signal, runF, m_law_is_signal, startR, h, h1, whole_int, sig]
    omega
theorem raised_ok {d : D} {ns : List Int} (p : Int) (hd : itemsOf d = some (ns.map .int)) (h : ns.length ≤ 1000) : F_raised [d, .int p] = .ok (.tup ((ns.map fun n => max n p).map .int)) := by
  have hc : compL (.nm 2) tYesF (eArgs oMax2 (aCons (eVar 2) (aCons (eVar 1) aNil))) (ns.map .int) [.sh d, .sh (.int p), .no] = some (ns.map fun n => .int (max n p)) := comp_ints fun n hn => by
    simp -implicitDefEqProofs
  have h2 : ns.length ≤ 16777216 := by omega
  simp -implicitDefEqProofs [F_raised, runF, m_raised, startR, hd, hc, h2]
/-- the row with its number w gone and p ahead -/
def gone (ns : List Int) (w : Nat) (p : Int) : List Int := p :: (ns.take w ++ ns.drop (w + 1))
theorem emptied_ok {d : D} {ns : List Int} (w : Nat) (p : Int) (hd : d = .lst (ns.map .int) ∨ d = .tup (ns.map .int)) (h : ns.length ≤ 1000) (hw : w < ns.length) :
    F_emptied [d, .int (1 + (w : Nat)), .int p] = .ok (.tup [.int ns[w], .tup ((gone ns w p).map .int)]) := by
  have hf := frozen_ints (n := 2) hd (by omega)
  have e1 : (1 + (w : Int) - 1) = (w : Int) := by omega
  have c1 := cut_take (ns.map .int) w
  have c2 : Fw.cutD (ns.map .int) (some (1 + (w : Int))) none = (ns.map .int).drop (w + 1) := by
    rw [show 1 + (w : Int) = ((w + 1 : Nat) : Int) by omega, cut_drop]
  have k1 : 1 + min w ns.length ≤ 16777216 := by omega
  have k2 : min w ns.length + 1 + (ns.length - (w + 1)) ≤ 16777216 := by omega
  simp -implicitDefEqProofs [F_emptied, runF, m_emptied, startR, hf, e1, ixD_nat, hw, c1, c2, gone, k1, k2]
/-- the numbers before the place i, but not the one at w, behind p -/
def acc (ns : List Int) (w : Nat) (p : Int) (i : Nat) : List Int := p :: (if i ≤ w then ns.take i else ns.take w ++ (ns.drop (w + 1)).take (i - (w + 1)))
theorem acc_succ {ns : List Int} {w i : Nat} {p : Int} (hw : w < ns.length) (hi : i < ns.length) : acc ns w p (i + 1) = if i = w then acc ns w p i else acc ns w p i ++ [ns[i]] := by
  unfold acc
  by_cases h1 : i = w
  · subst h1
    rw [if_pos rfl, if_neg (by omega), if_pos (Nat.le_refl _), Nat.sub_self, List.take_zero, List.append_nil]
  · rw [if_neg h1]
    by_cases h2 : i < w
    · rw [if_pos (by omega), if_pos (by omega), List.cons_append, List.take_succ_eq_append_getElem hi]
    · rw [if_neg (by omega), if_neg (by omega), List.cons_append, List.append_assoc, show i + 1 - (w + 1) = (i - (w + 1)) + 1 by omega, List.take_succ_eq_append_getElem (by rw [List.length_drop]; omega), List.getElem_drop]
      congr 5
      omega
theorem acc_end {ns : List Int} {w : Nat} {p : Int} (hw : w < ns.length) : acc ns w p ns.length = gone ns w p := by
  unfold acc gone
  rw [if_neg (by omega), List.take_of_length_le (l := ns.drop (w + 1)) (by rw [List.length_drop]; omega)]
theorem acc_len {ns : List Int} {w i : Nat} {p : Int} : (acc ns w p i).length ≤ 2 + 2 * ns.length := by
  unfold acc
  split
  · rw [List.length_cons, List.length_take]
    omega
  · rw [List.length_cons, List.length_append, List.length_take, List.length_take, List.length_drop]
    omega
theorem is_emptied_ok {ns : List Int} (w : Nat) (p : Int) (h : ns.length ≤ 400) (hw : w < ns.length) : F_law_is_emptied [.tup [.int ns[w], .tup ((gone ns w p).map .int)], .lst (ns.map .int), .int (1 + (w : Nat)), .int p] = .ok (.bl true) := by
  have e1 : (1 + (w : Int) - 1) = (w : Int) := by omega
  obtain ⟨ρ', e, c, rfl⟩ := loop_inv (t := .nm 5) (F := (sIf (tB1 (eBin oNe (eVar 5) (eBin oSub (eVar 2) (eC (.int 1)))))
    (sApp 4 (eBin oIx (eVar 1) (eVar 5)))
    sNext)) (ds := rangeD 0 ns.length) (ρ := [.sh (.tup [.int ns[w], .tup ((gone ns w p).map .int)]), .sh (.lst (ns.map .int)), .sh (.int (1 + (w : Nat))), .sh (.int p), .own (.lst [.int p]), .no])
    (fun i ρ => ∃ c, ρ = [.sh (.tup [.int ns[w], .tup ((gone ns w p).map .int)]), .sh (.lst (ns.map .int)), .sh (.int (1 + (w : Nat))), .sh (.int p), .own (.lst ((acc ns w p i).map .int)), c]) ⟨.no, by simp [acc]⟩ (by
    rintro i d _ hi ⟨c, rfl⟩
    obtain ⟨hi2, rfl⟩ := rangeD_get hi
    refine ⟨_, rfl, _, .inl ?_, ⟨.sh (.int i), rfl⟩⟩
    have hl := acc_len (ns := ns) (w := w) (i := i) (p := p)
    have hl2 : (acc ns w p i).length < 16777216 := by omega
    rw [acc_succ hw hi2]
    by_cases hiw : i = w
    · subst hiw
      simp -implicitDefEqProofs [e1]
    · have hne : ¬ ((i : Int) = (w : Int)) := by omega
      simp -implicitDefEqProofs [e1, hiw, hne, ixD_nat, hi2, hl2])
  have hr := rng1_n (n := ns.length) (by omega)
  rw [rangeD_len, acc_end hw] at e
  have hg : (gone ns w p).length ≤ 1000 := by
    rw [← acc_end hw]
    have := acc_len (ns := ns) (w := w) (i := ns.length) (p := p)
    omega
  simp -implicitDefEqProofs [F_law_is_emptied, runF, m_law_is_emptied, startR, hr, e, e1, whole_int, ixD_nat, hw, is_row_ok hg]
/-- every lesser number replaced -/
def high (ns : List Int) (p : Int) : List Int := ns.map fun n => max n p
theorem high_len {ns : List Int} {p : Int} : (high ns p).length = ns.length := List.length_map _
theorem row_good_ok {ns : List Int} (p : Int) (h : ns.length ≤ 400) : F_law_row_good [.lst (ns.map .int), .int p] = .ok (.bl true) := by
  have hl : ∀ {i : Nat}, ((high ns p).take i).length < 16777216 := fun {i} => by
    rw [List.length_take, high_len]
    omega
  obtain ⟨ρ1, e1, c1, rfl⟩ := loop_inv (t := .nm 4) (F := (sIf (tB1 (eBin oLt (eVar 4) (eVar 1)))
    (sApp 3 (eVar 1))
    (sApp 3 (eVar 4)))) (ds := ns.map .int) (ρ := [.sh (.lst (ns.map .int)), .sh (.int p), .sh (.lst (ns.map .int)), .own (.lst []), .no, .no, .no])
    (fun i ρ => ∃ c, ρ = [.sh (.lst (ns.map .int)), .sh (.int p), .sh (.lst (ns.map .int)), .own (.lst (((high ns p).take i).map .int)), c, .no, .no]) ⟨.no, rfl⟩ (by
    rintro i d _ hi ⟨c, rfl⟩
    rw [List.getElem?_map] at hi
    obtain ⟨n, hn, rfl⟩ := map_some2 hi
    obtain ⟨hlt, rfl⟩ := List.getElem?_eq_some_iff.mp hn
    refine ⟨_, rfl, _, .inl ?_, ⟨.sh (.int ns[i]), rfl⟩⟩
    have hh := hl (i := i)
    rw [List.take_succ_eq_append_getElem (by rw [high_len]; exact hlt)]
    have eg : (high ns p)[i]'(by rw [high_len]; exact hlt) = max ns[i] p := by
      unfold high
      rw [List.getElem_map]
    rw [eg, List.map_append]
    rw [List.length_take] at hh
    by_cases hp : ns[i] < p
    · simp -implicitDefEqProofs [hp, hh, Int.max_eq_right (Int.le_of_lt hp)]
    · simp -implicitDefEqProofs [hp, hh, Int.max_eq_left (Int.not_lt.mp hp)])
  rw [List.length_map, List.take_of_length_le (by rw [high_len]; exact Nat.le_refl _)] at e1
  have hr := is_row_ok (ns := high ns p) (by rw [high_len]; omega)
  have hra := raised_ok (d := .lst (ns.map .int)) (ns := ns) p rfl (by omega)
  have hrb := raised_ok (d := .tup (ns.map .int)) (ns := ns) p rfl (by omega)
  obtain ⟨ρ2, e2, c2, rfl⟩ := loop_inv (t := .nm 6) (F := (sSeq (sFrz 3 (sIf (tOrF (tNotF (tB1 (eCall F_law_is_emptied (aCons (eCall F_emptied (aCons (eVar 5) (aCons (eVar 6) (aCons (eVar 1) aNil)))) (aCons (eVar 3) (aCons (eVar 6) (aCons (eVar 1) aNil))))))) (tB1 (eBin oNe (eVar 5) (eOwn 3))))
    (sRet (eC (.bl false)))
    sNext))
    (sFrz 3 (sIf (tNotF (tB1 (eCall F_law_is_emptied (aCons (eCall F_emptied (aCons (eArgs oTuple (aCons (eOwn 3) aNil)) (aCons (eVar 6) (aCons (eVar 1) aNil)))) (aCons (eVar 3) (aCons (eVar 6) (aCons (eVar 1) aNil)))))))
    (sRet (eC (.bl false)))
    sNext)))) (ds := rangeD 1 ns.length) (ρ := [.sh (.lst (ns.map .int)), .sh (.int p), .sh (.lst (ns.map .int)), .sh (.lst ((high ns p).map .int)), c1, .sh (.lst ((high ns p).map .int)), .no])
    (fun i ρ => ∃ c, ρ = [.sh (.lst (ns.map .int)), .sh (.int p), .sh (.lst (ns.map .int)), .sh (.lst ((high ns p).map .int)), c1, .sh (.lst ((high ns p).map .int)), c]) ⟨.no, rfl⟩ (by
    rintro i d _ hi ⟨c, rfl⟩
    obtain ⟨hi2, rfl⟩ := rangeD_get hi
    have hi3 : i < (high ns p).length := by rw [high_len]; exact hi2
    refine ⟨_, rfl, _, .inl ?_, ⟨.sh (.int (1 + i)), rfl⟩⟩
    have k1 := emptied_ok (d := .lst ((high ns p).map .int)) i p (.inl rfl) (by rw [high_len]; omega) hi3
    have k2 := emptied_ok (d := .tup ((high ns p).map .int)) i p (.inr rfl) (by rw [high_len]; omega) hi3
    have k3 := is_emptied_ok (ns := high ns p) i p (by rw [high_len]; omega) hi3
    simp -implicitDefEqProofs [k1, k2, k3])
  have hr2 : rng2 [.int 1, .int ((ns.length : Int) + 1)] = some (rangeD 1 ns.length) := by
    rw [rng2_x (by omega)]
    congr 2
    omega
  have hh : (ns.map fun n => max n p) = high ns p := rfl
  simp -implicitDefEqProofs [F_law_row_good, runF, m_law_row_good, startR, e1, hra, hrb, hh, hr, high_len, hr2, e2]
def ceil (ps : List Int) : Int := maxIx ps 0 + 2 - maxIx ps 0 % 2
theorem start_row_ok {os ps : List Int} {ss : List (List Int)} (m : Nat) (h : m ≤ 1000) : F_start_row [gameD os ps ss, .int m] = .ok (.tup ((List.replicate m (ceil ps)).map .int)) := by
  have hr := rng1_n (n := m) (by omega)
  have hc : compL (.nm 2) tYesF (eProp 0 Game_ceilingF (eVar 0)) (rangeD 0 m) [.sh (gameD os ps ss), .sh (.int m), .no] = some (List.replicate m (.int (ceil ps))) := by
    rw [comp_same (d := .int (ceil ps)), rangeD_len]
    intro x hx
    simp -implicitDefEqProofs [gameD, ceiling_ok, ceil]
  have h2 : m ≤ 16777216 := by omega
  simp -implicitDefEqProofs [F_start_row, runF, m_start_row, startR, hr, hc, h2]
theorem maxIx_snoc {ps : List Int} {x : Int} (h : ∀ p ∈ ps ++ [x], 0 ≤ p) : maxIx (ps ++ [x]) 0 = max (maxIx ps 0) x := by
  obtain ⟨h1, h2, h3⟩ := maxIx_nn h
  obtain ⟨k1, k2, k3⟩ := maxIx_nn (ns := ps) fun p hp => h p (List.mem_append_left _ hp)
  have hx := h3 x (by simp)
  have h0 := h x (by simp)
  have hle : maxIx ps 0 ≤ maxIx (ps ++ [x]) 0 := by
    rcases k1 with k1 | k1
    · omega
    · exact h3 _ (List.mem_append_left _ k1)
  rcases h1 with h1 | h1
  · omega
  · rcases List.mem_append.mp h1 with h1 | h1
    · have := k3 _ h1
      omega
    · have : maxIx (ps ++ [x]) 0 = x := by simpa using h1
      omega
theorem start_good_ok {n : Nat} {rest : List Int} (m : Nat) (hn : n ≤ 40) (hl : n ≤ rest.length) (hl2 : rest.length ≤ 1000) (hp : ∀ x ∈ rest, 0 ≤ x ∧ x ≤ 30) (hm : 1 ≤ m ∧ m ≤ 6) : F_law_start_good [.lst (((n : Int) :: rest).map .int), .int m] = .ok (.bl true) := by
  have hcut : Fw.cutD (((n : Int) :: rest).map .int) (some 1) (some (1 + (n : Int))) = (rest.take n).map .int := by
    rw [show (1 + (n : Int)) = ((1 + n : Nat) : Int) by omega]
    show Fw.cutD _ (some ((1 : Nat) : Int)) _ = _
    rw [cut_both, show 1 + n - 1 = n by omega]
    simp
  have hps : ∀ x ∈ rest.take n, 0 ≤ x ∧ x ≤ 30 := fun x hx => hp x (List.mem_of_mem_take hx)
  have hlen : (rest.take n).length = n := by rw [List.length_take]; omega
  have hr := rng1_n (n := n) (by omega)
  have c1 : ∀ (x : Cell) (a b c : D), compL (.nm 8) tYesF (eC (.int 0)) (rangeD 0 n) [.sh a, .sh b, .sh (.int n), .sh c, .no, .no, .no, .no, .no, x] = some ((List.replicate n 0).map .int) := fun x a b c => by
    rw [comp_same (d := .int 0), rangeD_len, List.map_replicate]
    intro x hx
    rfl
  have c2 : ∀ (x : Cell) (a b c : D), compL (.nm 8) tYesF (fL (aLst (aCons (eBin oMod (eArgs oToInt (aCons (eBin oAdd (eVar 8) (eC (.int 1))) aNil)) (eVar 2)) aNil))) (rangeD 0 n) [.sh a, .sh b, .sh (.int n), .sh c, .no, .no, .no, .no, .no, x] = some (((List.range n).map fun v : Nat => [((v : Int) + 1) % n]).map rowL) := fun x a b c => by
    rw [List.map_map]
    refine comp_range fun k hk => ?_
    have : 0 < n := by omega
    simp -implicitDefEqProofs [this, rowL]
  have hG : GameOk (List.replicate n 0) (rest.take n) ((List.range n).map fun v : Nat => [((v : Int) + 1) % n]) := by
    refine ⟨by rw [hlen, List.length_replicate], by rw [List.length_map, List.length_range, List.length_replicate], by rw [List.length_replicate]; omega, fun o ho => ?_, hps, fun r hr => ?_⟩
    · rw [List.eq_of_mem_replicate ho]
      omega
    · obtain ⟨v, hv, rfl⟩ := List.mem_map.mp hr
      have := List.mem_range.mp hv
      rw [List.length_replicate]
      have k1 := Int.emod_nonneg ((v : Int) + 1) (b := (n : Int)) (by omega)
      have k2 := Int.emod_lt_of_pos ((v : Int) + 1) (b := (n : Int)) (by omega)
      exact ⟨by simp, by omega, by omega, trivial⟩
  have hinit := init_game (a := .lst ((List.replicate n (0 : Int)).map .int)) (b := .lst ((rest.take n).map .int)) (c := .lst (((List.range n).map fun v : Nat => [((v : Int) + 1) % n]).map rowL)) hG (frozen_ints (n := 2) (.inl rfl) (by rw [List.length_replicate]; omega)) (frozen_ints (n := 2) (.inl rfl) (by omega))
    (frozen_rows (n := 1) (.inl rfl) (by rw [List.length_map, List.length_range]; omega) fun r hr => by
      obtain ⟨v, hv, rfl⟩ := List.mem_map.mp hr
      simp)
  generalize hos : List.replicate n (0 : Int) = os at *
  generalize hss : ((List.range n).map fun v : Nat => [((v : Int) + 1) % n]) = ss at *
  obtain ⟨ρ1, e1, c6, rfl⟩ := loop_inv (t := .nm 6) (F := (sIf (tB1 (eBin oGe (eVar 6) (eVar 5)))
    (sSet 5 (eBin oSub (eBin oAdd (eVar 6) (eC (.int 2))) (eBin oMod (eArgs oToInt (aCons (eVar 6) aNil)) (eC (.int 2)))))
    sNext)) (ds := (rest.take n).map .int) (ρ := [.sh (.lst (((n : Int) :: rest).map .int)), .sh (.int m), .sh (.int n), .sh (.lst ((rest.take n).map .int)), .sh (gameD os (rest.take n) ss), .sh (.int 2), .no, .no, .no, .no])
    (fun i ρ => ∃ c6, ρ = [.sh (.lst (((n : Int) :: rest).map .int)), .sh (.int m), .sh (.int n), .sh (.lst ((rest.take n).map .int)), .sh (gameD os (rest.take n) ss), .sh (.int (ceil ((rest.take n).take i))), c6, .no, .no, .no])
    ⟨.no, by simp [ceil, maxIx_nil]⟩ (by
    rintro i d _ hi ⟨c6, rfl⟩
    rw [List.getElem?_map] at hi
    obtain ⟨x, hx, rfl⟩ := map_some2 hi
    obtain ⟨hlt, rfl⟩ := List.getElem?_eq_some_iff.mp hx
    generalize hq : rest.take n = ps at *
    refine ⟨_, rfl, _, .inl ?_, ⟨.sh (.int ps[i]), rfl⟩⟩
    rw [List.take_succ_eq_append_getElem hlt]
    have k1 := maxIx_snoc (ps := ps.take i) (x := ps[i]) (fun p hp => by
      rcases List.mem_append.mp hp with h | h
      · exact (hps p (List.mem_of_mem_take h)).1
      · have : p = ps[i] := by simpa using h
        rw [this]
        exact (hps _ (List.getElem_mem hlt)).1)
    have k2 := (maxIx_nn (ns := ps.take i) fun p hp => (hps p (List.mem_of_mem_take hp)).1).2.1
    have k3 := (hps _ (List.getElem_mem hlt)).1
    unfold ceil
    rw [k1]
    generalize maxIx (ps.take i) 0 = M at *
    generalize ps[i] = x at *
    by_cases hge : M + 2 - M % 2 ≤ x
    · simp -implicitDefEqProofs [hge]
      omega
    · simp -implicitDefEqProofs [hge]
      omega)
  rw [List.length_map, List.take_length] at e1
  generalize hq : rest.take n = ps at *
  have step : ∀ (k : Nat) (x : Cell), k ≤ 7 → (sIf (tNotF (tB1 (eCall F_law_is_row (aCons (eCall F_start_row (aCons (eVar 4) (aCons (eVar 7) aNil))) (aCons (fL (aComp (aRng1 (aCons (eVar 7) aNil)) (.nm 9) tYesF (eVar 5))) aNil)))))
    (sRet (eC (.bl false)))
    sNext) [.sh (.lst (((n : Int) :: rest).map .int)), .sh (.int m), .sh (.int n), .sh (.lst (ps.map .int)), .sh (gameD os ps ss), .sh (.int (ceil ps)), c6, .sh (.int k), .no, .no] = .nx [.sh (.lst (((n : Int) :: rest).map .int)), .sh (.int m), .sh (.int n), .sh (.lst (ps.map .int)), .sh (gameD os ps ss), .sh (.int (ceil ps)), c6, .sh (.int k), .no, .no] := fun k x hk => by
    have hr2 := rng1_n (n := k) (by omega)
    have hc : compL (.nm 9) tYesF (eVar 5) (rangeD 0 k) [.sh (.lst (((n : Int) :: rest).map .int)), .sh (.int m), .sh (.int n), .sh (.lst (ps.map .int)), .sh (gameD os ps ss), .sh (.int (ceil ps)), c6, .sh (.int k), .no, .no] = some ((List.replicate k (ceil ps)).map .int) := by
      rw [comp_same (d := .int (ceil ps)), rangeD_len, List.map_replicate]
      intro x hx
      rfl
    have hs := start_row_ok (os := os) (ps := ps) (ss := ss) k (by omega)
    have hi := is_row_ok (ns := List.replicate k (ceil ps)) (by rw [List.length_replicate]; omega)
    have h2 : k ≤ 16777216 := by omega
    simp only [List.map_cons, List.map_replicate] at hc hs hi
    simp -implicitDefEqProofs [hr2, hc, hs, hi, h2]
  have s1 := step m .no (by omega)
  have s2 := step (7 - m) .no (by omega)
  rw [show ((7 - m : Nat) : Int) = 7 - (m : Int) by omega] at s2
  have h2 : n ≤ 16777216 := by omega
  have h3 : os.length = n := by rw [← hos, List.length_replicate]
  have h4 : ss.length = n := by rw [← hss, List.length_map, List.length_range]
  simp only [List.map_cons] at hcut e1 s1 s2
  simp -implicitDefEqProofs at s1 s2
  unfold gameD at e1 s1 s2
  simp -implicitDefEqProofs [F_law_start_good, runF, m_law_start_good, startR, hcut, hr, h2, c1, c2, hinit, e1, loop_cons, s1, s2, hlen, h3, h4]
theorem sig_step (row : List Int) (p w : Int) (hw : 0 ≤ w) (x0 x1 x2 x3 x5 x7 x8 x10 x11 x12 x13 : Cell) (hr : row.length ≤ 1000) : ∃ c, (sFor (aItems (fL (aBin oCatL (fL (aLst (aCons (eC (.int 0)) (aCons (eC (.int 1)) (aCons (eVar 6) aNil))))) (eVar 4)))) (.nm 10)
    (sIf (tNotF (tB1 (eCall F_law_is_signal (aCons (eCall F_signal (aCons (eVar 9) (aCons (eVar 10) aNil))) (aCons (eVar 9) (aCons (eVar 10) aNil))))))
    (sRet (eC (.bl false)))
    sNext)) [x0, x1, x2, x3, .sh (.lst (row.map .int)), x5, .sh (.int p), x7, x8, .sh (.int w), x10, x11, x12, x13] = .nx [x0, x1, x2, x3, .sh (.lst (row.map .int)), x5, .sh (.int p), x7, x8, .sh (.int w), c, x11, x12, x13] := by
  obtain ⟨c, e⟩ := loop_checks (j := 10) (F := (sIf (tNotF (tB1 (eCall F_law_is_signal (aCons (eCall F_signal (aCons (eVar 9) (aCons (eVar 10) aNil))) (aCons (eVar 9) (aCons (eVar 10) aNil))))))
    (sRet (eC (.bl false)))
    sNext)) (ds := ((0 :: 1 :: p :: row : List Int)).map .int) (ρ := [x0, x1, x2, x3, .sh (.lst (row.map .int)), x5, .sh (.int p), x7, x8, .sh (.int w), x10, x11, x12, x13]) (by
    intro i d hi
    rw [List.getElem?_map] at hi
    obtain ⟨v, _, rfl⟩ := map_some2 hi
    simp -implicitDefEqProofs [signal_ok, is_signal_ok _ _ hw])
  refine ⟨c, ?_⟩
  have h2 : 3 + row.length ≤ 16777216 := by omega
  simp only [List.map_cons] at e
  simp -implicitDefEqProofs [h2, e]
theorem sig_ok (row : List Int) (p : Int) (x0 x1 x2 x3 x5 x7 x8 x9 x10 x11 x12 x13 : Cell) (hr : row.length ≤ 1000) : ∃ c d, loopF (.nm 9) (sFor (aItems (fL (aBin oCatL (fL (aLst (aCons (eC (.int 0)) (aCons (eC (.int 1)) (aCons (eVar 6) aNil))))) (eVar 4)))) (.nm 10)
    (sIf (tNotF (tB1 (eCall F_law_is_signal (aCons (eCall F_signal (aCons (eVar 9) (aCons (eVar 10) aNil))) (aCons (eVar 9) (aCons (eVar 10) aNil))))))
    (sRet (eC (.bl false)))
    sNext)) (rangeD 0 7) [x0, x1, x2, x3, .sh (.lst (row.map .int)), x5, .sh (.int p), x7, x8, x9, x10, x11, x12, x13] = .nx [x0, x1, x2, x3, .sh (.lst (row.map .int)), x5, .sh (.int p), x7, x8, c, d, x11, x12, x13] := by
  obtain ⟨ρ', e, c, d, rfl⟩ := loop_inv (t := .nm 9) (F := (sFor (aItems (fL (aBin oCatL (fL (aLst (aCons (eC (.int 0)) (aCons (eC (.int 1)) (aCons (eVar 6) aNil))))) (eVar 4)))) (.nm 10)
    (sIf (tNotF (tB1 (eCall F_law_is_signal (aCons (eCall F_signal (aCons (eVar 9) (aCons (eVar 10) aNil))) (aCons (eVar 9) (aCons (eVar 10) aNil))))))
    (sRet (eC (.bl false)))
    sNext))) (ds := rangeD 0 7) (ρ := [x0, x1, x2, x3, .sh (.lst (row.map .int)), x5, .sh (.int p), x7, x8, x9, x10, x11, x12, x13]) (fun _ ρ => ∃ c d, ρ = [x0, x1, x2, x3, .sh (.lst (row.map .int)), x5, .sh (.int p), x7, x8, c, d, x11, x12, x13]) ⟨_, _, rfl⟩ (by
    rintro i d _ hi ⟨c, d', rfl⟩
    obtain ⟨hi2, rfl⟩ := rangeD_get hi
    obtain ⟨c2, e2⟩ := sig_step row p (0 + (i : Int)) (by omega) x0 x1 x2 x3 x5 x7 x8 d' x11 x12 x13 hr
    exact ⟨_, rfl, _, .inl e2, ⟨_, _, rfl⟩⟩)
  exact ⟨c, d, e⟩
theorem law_holds (ns : List Int) (hns : ns.length ≤ 63) : F_law [.fl (ns.map D.int)] = .ok (.bl true) := by
  obtain ⟨c0, e0⟩ := cell_at ns 0 (by decide)
  obtain ⟨c1, e1⟩ := cell_at ns 1 (by decide)
  obtain ⟨c2, e2⟩ := cell_at ns 2 (by decide)
  obtain ⟨c3, e3⟩ := cell_at ns 3 (by decide)
  obtain ⟨hd, f0, hl0, hb0⟩ := digits_ok c0 [6, 3, 41, 6, 4, 6, 12] (by decide) (by decide)
  obtain ⟨d0, d1, d2, d3, d4, d5, d6, rfl⟩ : ∃ d0 d1 d2 d3 d4 d5 d6, hd = [d0, d1, d2, d3, d4, d5, d6] := by
    match hd, hl0 with
    | [d0, d1, d2, d3, d4, d5, d6], _ => exact ⟨_, _, _, _, _, _, _, rfl⟩
  have b0 := hb0 0 _ _ rfl rfl
  have b1 := hb0 1 _ _ rfl rfl
  have b3 := hb0 3 _ _ rfl rfl
  have b4 := hb0 4 _ _ rfl rfl
  have b5 := hb0 5 _ _ rfl rfl
  have b6 := hb0 6 _ _ rfl rfl
  clear hb0 hl0
  obtain ⟨m5, rfl⟩ := Int.eq_ofNat_of_zero_le b5.1
  obtain ⟨m0, rfl⟩ := Int.eq_ofNat_of_zero_le b0.1
  obtain ⟨w, ew, hw⟩ : ∃ w : Int, ixD [.int 41, .int 41, .int 4] d1 = some (.int w) ∧ 0 < w ∧ w ≤ 41 := by
    have : d1 = 0 ∨ d1 = 1 ∨ d1 = 2 := by omega
    rcases this with rfl | rfl | rfl
    · exact ⟨41, rfl, by decide⟩
    · exact ⟨41, rfl, by decide⟩
    · exact ⟨4, rfl, by decide⟩
  obtain ⟨es, f1, hl1, hb1⟩ := digits_ok c1 (List.replicate (1 + m0) w) (fun s hs => by
    rw [List.eq_of_mem_replicate hs]
    omega) (by rw [List.length_replicate]; omega)
  rw [List.length_replicate] at hl1
  have hrc : rng1 [.int (1 + (m0 : Int))] = some (rangeD 0 (1 + m0)) := by
    rw [show (1 + (m0 : Int)) = ((1 + m0 : Nat) : Int) by omega]
    exact rng1_n (by omega)
  generalize hrow : sortI es = row at *
  have hrl : row.length = 1 + m0 := by rw [← hrow, sortI_len, hl1]
  have hq : (d3 % (1 + (m0 : Int))).toNat < row.length := by
    have k1 := Int.emod_nonneg d3 (b := 1 + (m0 : Int)) (by omega)
    have k2 := Int.emod_lt_of_pos d3 (b := 1 + (m0 : Int)) (by omega)
    omega
  have hnear : ixD (row.map .int) (d3 % (1 + (m0 : Int))) = some (.int row[(d3 % (1 + (m0 : Int))).toNat]) := by
    rw [ixD_pos (Int.emod_nonneg _ (by omega)), List.getElem?_map, List.getElem?_eq_getElem hq]
    rfl
  generalize row[(d3 % (1 + (m0 : Int))).toNat] = near at *
  obtain ⟨z, ez⟩ : ∃ z : Int, ixD [.int d2, .int near, .int (near + 1), .int (near - 1)] d4 = some (.int z) := by
    have : d4 = 0 ∨ d4 = 1 ∨ d4 = 2 ∨ d4 = 3 := by omega
    rcases this with rfl | rfl | rfl | rfl
    · exact ⟨_, rfl⟩
    · exact ⟨_, rfl⟩
    · exact ⟨_, rfl⟩
    · exact ⟨_, rfl⟩
  have hrg := row_good_ok (ns := row) (max 0 (min 40 z)) (by omega)
  have c1' : ∀ (a b : D), compL (.nm 11) tYesF (eVar 3) (rangeD 0 (1 + m0)) [.sh a, .sh b, .sh (.int (1 + (m0 : Int))), .sh (.int w), .no, .no, .no, .no, .no, .no, .no, .no, .no, .no] = some ((List.replicate (1 + m0) w).map .int) := fun a b => by
    rw [comp_same (d := .int w), rangeD_len, List.map_replicate]
    intro x hx
    rfl
  have h2 : 1 + m0 ≤ 16777216 := by omega
  obtain ⟨ds2, f2, hl2, hb2⟩ := digits_ok c2 [7, 31, 31, 31, 31, 31, 31] (by decide) (by decide)
  obtain ⟨ds3, f3, hl3, hb3⟩ := digits_ok c3 ([2, 40, 31] ++ List.replicate 40 31) (by decide) (by decide)
  have p1 : (0 : Int) < 1 + (m0 : Int) := by omega
  simp only [List.map_cons, List.map_nil, List.map_replicate, List.map_append, List.cons_append, List.nil_append] at f0 f1 f2 f3 c1'
  by_cases h6 : d6 = 0
  · subst h6
    obtain ⟨t0, t1, t2, rest, rfl⟩ : ∃ t0 t1 t2 rest, ds3 = t0 :: t1 :: t2 :: rest := by
      match ds3, hl3 with
      | t0 :: t1 :: t2 :: rest, _ => exact ⟨_, _, _, _, rfl⟩
    have u0 := hb3 0 _ _ rfl rfl
    have u1 := hb3 1 _ _ rfl rfl
    have u2 := hb3 2 _ _ rfl rfl
    have hrl3 : rest.length = 40 := by simpa using hl3
    obtain ⟨n0, rfl⟩ := Int.eq_ofNat_of_zero_le u0.1
    have hr40 : rng1 [.int 40] = some (rangeD 0 40) := rng1_n (n := 40) (by decide)
    have hr7 : rng1 [.int 7] = some (rangeD 0 7) := rng1_n (n := 7) (by decide)
    have q1 : ∀ (ρ : Fw.Env), compL (.nm 13) tYesF (eC (D.int 31)) (rangeD 0 40) ρ = some (List.replicate 40 (D.int 31)) := fun ρ => by
      rw [comp_same (d := .int 31), rangeD_len]
      intro x hx
      rfl
    have q2 : ∀ (x0 x1 x2 x3 x4 x5 x6 x7 x9 x10 x11 x13 : Cell), compL (.nm 12) tYesF (eBin oMod (eArgs oToInt (aCons (eVar 12) aNil)) (eArgs oMax2 (aCons (eC (.int 1)) (aCons (eBin oIx (eVar 8) (eC (.int 2))) aNil)))) (rest.map .int) [x0, x1, x2, x3, x4, x5, x6, x7, .sh (.lst (.int (n0 : Int) :: .int t1 :: .int t2 :: rest.map .int)), x9, x10, x11, .no, x13] = some ((rest.map fun x => x % (max 1 t2)).map .int) := fun x0 x1 x2 x3 x4 x5 x6 x7 x9 x10 x11 x13 => by
      rw [List.map_map]
      refine comp_ints fun x hx => ?_
      have : 0 < max 1 t2 := by omega
      simp -implicitDefEqProofs [this]
    have q3 : Fw.cutD (D.int (n0 : Int) :: D.int t1 :: D.int t2 :: rest.map D.int) (some 3) none = rest.map D.int := cut_drop (D.int (n0 : Int) :: D.int t1 :: D.int t2 :: rest.map D.int) 3
    have hQl : (rest.map fun x => x % (max 1 t2)).length = 40 := by rw [List.length_map, hrl3]
    have hQb : ∀ x ∈ (rest.map fun x => x % (max 1 t2)), 0 ≤ x ∧ x ≤ 30 := fun x hx => by
      obtain ⟨y, hy, rfl⟩ := List.mem_map.mp hx
      have k1 := Int.emod_nonneg y (b := max 1 t2) (by omega)
      have k2 := Int.emod_lt_of_pos y (b := max 1 t2) (by omega)
      omega
    generalize (rest.map fun x => x % (max 1 t2)) = Q at *
    have h3 : rest.length ≤ 16777216 := by omega
    have h4 : 1 + Q.length ≤ 16777216 := by omega
    have p2 : (0 : Int) < 39 + (n0 : Int) := by omega
    have k1 := Int.emod_nonneg t1 (b := 39 + (n0 : Int)) (by omega)
    have k2 := Int.emod_lt_of_pos t1 (b := 39 + (n0 : Int)) (by omega)
    obtain ⟨j, hj⟩ := Int.eq_ofNat_of_zero_le k1
    have st := fun (ρ : Fw.Env) (d : D) => sto_pos (ρ := ρ) (i := 7) (k := 1 + (j : Int)) (d := d) (ds := D.int (39 + (n0 : Int)) :: Q.map D.int) (by
      rw [List.length_cons, List.length_map, hQl]
      omega)
    have st2 : ∀ (d : D), (D.int (39 + (n0 : Int)) :: Q.map D.int).set (1 + (j : Int)).toNat d = D.int (39 + (n0 : Int)) :: (Q.map D.int).set j d := fun d => by
      rw [show (1 + (j : Int)).toNat = j + 1 by omega, List.set_cons_succ]
    have st3 : ((Q.map D.int).set j (D.int t2)) = (Q.set j t2).map D.int := by rw [List.map_set]
    have hp : ∀ x ∈ Q.set j t2, 0 ≤ x ∧ x ≤ 30 := fun x hx => by
      rcases List.mem_or_eq_of_mem_set hx with h | h
      · exact hQb x h
      · omega
    have hlen : (Q.set j t2).length = 40 := by rw [List.length_set, hQl]
    generalize hR : Q.set j t2 = R at *
    have g1 := start_good_ok (n := 39 + n0) (rest := R) (1 + m5) (by omega) (by omega) (by omega) hp (by omega)
    have g2 := start_good_ok (n := 39 + n0) (rest := R) (1 + m0) (by omega) (by omega) (by omega) hp (by omega)
    rw [show ((39 + n0 : Nat) : Int) = 39 + (n0 : Int) by omega, show ((1 + m5 : Nat) : Int) = 1 + (m5 : Int) by omega, List.map_cons] at g1
    rw [show ((39 + n0 : Nat) : Int) = 39 + (n0 : Int) by omega, show ((1 + m0 : Nat) : Int) = 1 + (m0 : Int) by omega, List.map_cons] at g2
    simp only [List.reduceReplicate] at f3
    obtain ⟨y9, y10, hsig⟩ := sig_ok row (max 0 (min 40 z)) (.sh (.fl (ns.map .int))) (.sh (.lst [D.int ↑m0, D.int d1, D.int d2, D.int d3, D.int d4, D.int ↑m5, D.int 0])) (.sh (.int (1 + (m0 : Int)))) (.sh (.int w)) (.sh (.int near)) (.own (.lst (.int (39 + (n0 : Int)) :: R.map .int))) (.sh (.lst (.int (n0 : Int) :: .int t1 :: .int t2 :: rest.map .int))) .no .no .no .no .no (by omega)
    simp -implicitDefEqProofs [F_law, runF, m_law, startR, e0, e1, e2, e3, f0, f1, f2, f3, ew, hrc, h2, c1', hrow, hnear, ez, p1, hr40, hr7, q1, q2, q3, p2, hj, st, st2, st3, hR, hrg, g1, g2, hsig, h3, h4]
  · obtain ⟨n0, r1, r2, r3, r4, r5, r6, rfl⟩ : ∃ n0 r1 r2 r3 r4 r5 r6, ds2 = [n0, r1, r2, r3, r4, r5, r6] := by
      match ds2, hl2 with
      | [d0, d1, d2, d3, d4, d5, d6], _ => exact ⟨_, _, _, _, _, _, _, rfl⟩
    have u0 := hb2 0 _ _ rfl rfl
    have u1 := hb2 1 _ _ rfl rfl
    have u2 := hb2 2 _ _ rfl rfl
    have u3 := hb2 3 _ _ rfl rfl
    have u4 := hb2 4 _ _ rfl rfl
    have u5 := hb2 5 _ _ rfl rfl
    have u6 := hb2 6 _ _ rfl rfl
    obtain ⟨n0, rfl⟩ := Int.eq_ofNat_of_zero_le u0.1
    have hp : ∀ x ∈ [r1, r2, r3, r4, r5, r6], 0 ≤ x ∧ x ≤ 30 := fun x hx => by
      simp only [List.mem_cons, List.not_mem_nil, or_false] at hx
      rcases hx with rfl | rfl | rfl | rfl | rfl | rfl <;> omega
    have hr7 : rng1 [.int 7] = some (rangeD 0 7) := rng1_n (n := 7) (by decide)
    have hn : n0 ≤ 6 := by omega
    generalize hR : [r1, r2, r3, r4, r5, r6] = R at *
    have hRl : R.length = 6 := by rw [← hR]; rfl
    have hRm : [D.int r1, D.int r2, D.int r3, D.int r4, D.int r5, D.int r6] = R.map D.int := by rw [← hR]; rfl
    have g1 := start_good_ok (n := n0) (rest := R) (1 + m5) (by omega) (by omega) (by omega) hp (by omega)
    have g2 := start_good_ok (n := n0) (rest := R) (1 + m0) (by omega) (by omega) (by omega) hp (by omega)
    rw [show ((1 + m5 : Nat) : Int) = 1 + (m5 : Int) by omega, List.map_cons] at g1
    rw [show ((1 + m0 : Nat) : Int) = 1 + (m0 : Int) by omega, List.map_cons] at g2
    rw [List.map_cons] at f2
    obtain ⟨y9, y10, hsig⟩ := sig_ok row (max 0 (min 40 z)) (.sh (.fl (ns.map .int))) (.sh (.lst [D.int ↑m0, D.int d1, D.int d2, D.int d3, D.int d4, D.int ↑m5, D.int d6])) (.sh (.int (1 + (m0 : Int)))) (.sh (.int w)) (.sh (.int near)) (.own (.lst (.int (n0 : Int) :: R.map .int))) .no .no .no .no .no .no (by omega)
    simp -implicitDefEqProofs [F_law, runF, m_law, startR, e0, e1, e2, f0, f1, f2, ew, hrc, h2, c1', hrow, hnear, ez, h6, p1, hr7, hrg, g1, g2, hsig]
end Lw

namespace Lw
open PySem PySem.Spec PyProof.Rows L2 Fw

theorem walk {l : PySem.W.OpenLaw} {q : Program} {loose : List Str} {XP : (Str → Option Value) → Heap → Prop} {YP : World → Heap → Prop} {d : DefRec} {K : Params → PySem.W.Frag} (hn : l.most = some 63) (hdf : d.params.defaults = [])
    (hY : ∀ (w : World) (h : Heap), YP w h → (K w.params).In h)
    (F : ∀ (w : World) (mg : Str → Option Value) (fa : Addr) (h : Heap), (K w.params).In h → h.Ns mainGlobals mg → mg d.name = some (.ref fa) →
      ∃ (cl : Nat → ClsT) (fd : FuncData), (∀ (s : Shared) (u : Value), BindsTo s fd ⟨[u], []⟩ [("script", u)]) ∧ ∀ base : Heap, (K w.params).In base → base.Ns mainGlobals mg → FnOk l.prog w (K w.params) mg base CX0 9 fa fd ["script"] (spF (K w.params) cl 1 F_law)) :
    PySem.W.WalkO q loose XP YP l.row.toRowW d [] (fun f vs => PySem.call f vs) :=
  L2.walk_of (n := 63) (k := 9) (x := "script") (CX := fun _ => CX0) (sp := fun w => spLaw (K w.params)) hn (by decide) hdf ⟨rfl, by decide, by decide⟩ hY (fun w mg fa h h1 h2 h3 => by
    obtain ⟨cl, fd, b, k⟩ := F w mg fa h h1 h2 h3
    exact ⟨fd, b, fun base h4 h5 => law_spec law_holds (k base h4 h5)⟩) (fun _ _ a ns hl _ hS => ⟨a, ns, rfl, hS, hl, fun _ => rfl⟩) fun _ _ _ _ _ z => z
end Lw
open PySem PySem.W PyProof.Rows
set_option maxRecDepth 100000 in
set_option maxHeartbeats 0 in
theorem PySem.Challenge.cw_holdsalltrees_k57_rows_and_signals_holds : PySem.Challenge.rw_holdsalltrees_k57_rows_and_signals.Holds := by
  w_on; o_law; k_head; (case hw => w_witness2)
  k_fill
  refine Lw.walk (l := PySem.Challenge.rw_holdsalltrees_k57_rows_and_signals) rfl rfl (fun w h Y => PySem.W.kIn_of Y) ?F
  case F =>
    intro w mg fa h KX G hmg
    refine' Lw.all_mk KX G hmg ?aC0 ?pg0 ?hd0 ?po0 ?sa0 ?nf0_0 ?nf0_1 ?nf0_2 ?nf0_3 ?a1 ?l1 ?c1 ?k1 ?a2 ?g2 ?t2 ?r2 ?l2 ?c2 ?k2 ?a3 ?g3 ?t3 ?r3 ?l3 ?c3 ?k3 ?a4 ?l4 ?c4 ?k4 ?a5 ?l5 ?c5 ?k5 ?a6 ?l6 ?c6 ?k6 ?a7 ?l7 ?c7 ?k7 ?a8 ?l8 ?c8 ?k8 ?a9 ?l9 ?c9 ?k9 ?a10 ?l10 ?c10 ?k10 ?mk0 ?a11 ?i11 ?kc0 ?l11 ?c11 ?k11 ?a12 ?l12 ?c12 ?k12 ?a13 ?l13 ?c13 ?k13 ?a14 ?l14 ?c14 ?k14 ?a15 ?l15 ?c15 ?k15 ?a16 ?l16 ?c16 ?k16 ?a17 ?l17 ?c17 ?k17 ?a18 ?l18 ?c18 ?k18 ?a19 ?l19 ?c19 ?k19 ?a20 ?l20 ?c20 ?k20 ?z_len ?z_int ?z_bool ?z_str ?z_range ?z_isinstance ?z_tuple ?z_list ?z_dict ?z_set ?z_max ?z_min ?z_sum ?z_any ?z_all ?z_sorted ?z_enumerate ?z_zip ?z_reversed ?z_repr
    (case aC0 => k_is)
    (case pg0 => k_is)
    (case hd0 => k_is)
    (case po0 => k_is)
    (case sa0 => k_is)
    (case nf0_0 => k_is)
    (case nf0_1 => k_is)
    (case nf0_2 => k_is)
    (case nf0_3 => k_is)
    (case a1 => k_is)
    (case l1 => k_is)
    (case c1 => k_is)
    (case k1 => k_is)
    (case a2 => k_is)
    (case g2 => k_is)
    (case t2 => k_is)
    (case r2 => k_is)
    (case l2 => k_is)
    (case c2 => k_is)
    (case k2 => k_is)
    (case a3 => k_is)
    (case g3 => k_is)
    (case t3 => k_is)
    (case r3 => k_is)
    (case l3 => k_is)
    (case c3 => k_is)
    (case k3 => k_is)
    (case a4 => k_is)
    (case l4 => k_is)
    (case c4 => k_is)
    (case k4 => k_is)
    (case a5 => k_is)
    (case l5 => k_is)
    (case c5 => k_is)
    (case k5 => k_is)
    (case a6 => k_is)
    (case l6 => k_is)
    (case c6 => k_is)
    (case k6 => k_is)
    (case a7 => k_is)
    (case l7 => k_is)
    (case c7 => k_is)
    (case k7 => k_is)
    (case a8 => k_is)
    (case l8 => k_is)
    (case c8 => k_is)
    (case k8 => k_is)
    (case a9 => k_is)
    (case l9 => k_is)
    (case c9 => k_is)
    (case k9 => k_is)
    (case a10 => k_is)
    (case l10 => k_is)
    (case c10 => k_is)
    (case k10 => k_is)
    (case mk0 => k_is)
    (case a11 => k_is)
    (case i11 => k_is)
    (case kc0 => k_is)
    (case l11 => k_is)
    (case c11 => k_is)
    (case k11 => k_is)
    (case a12 => k_is)
    (case l12 => k_is)
    (case c12 => k_is)
    (case k12 => k_is)
    (case a13 => k_is)
    (case l13 => k_is)
    (case c13 => k_is)
    (case k13 => k_is)
    (case a14 => k_is)
    (case l14 => k_is)
    (case c14 => k_is)
    (case k14 => k_is)
    (case a15 => k_is)
    (case l15 => k_is)
    (case c15 => k_is)
    (case k15 => k_is)
    (case a16 => k_is)
    (case l16 => k_is)
    (case c16 => k_is)
    (case k16 => k_is)
    (case a17 => k_is)
    (case l17 => k_is)
    (case c17 => k_is)
    (case k17 => k_is)
    (case a18 => k_is)
    (case l18 => k_is)
    (case c18 => k_is)
    (case k18 => k_is)
    (case a19 => k_is)
    (case l19 => k_is)
    (case c19 => k_is)
    (case k19 => k_is)
    (case a20 => k_is)
    (case l20 => k_is)
    (case c20 => k_is)
    (case k20 => k_is)
    (case z_len => k_is)
    (case z_int => k_is)
    (case z_bool => k_is)
    (case z_str => k_is)
    (case z_range => k_is)
    (case z_isinstance => k_is)
    (case z_tuple => k_is)
    (case z_list => k_is)
    (case z_dict => k_is)
    (case z_set => k_is)
    (case z_max => k_is)
    (case z_min => k_is)
    (case z_sum => k_is)
    (case z_any => k_is)
    (case z_all => k_is)
    (case z_sorted => k_is)
    (case z_enumerate => k_is)
    (case z_zip => k_is)
    (case z_reversed => k_is)
    (case z_repr => k_is)
