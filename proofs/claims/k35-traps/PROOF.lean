import PyProof.Rows.All
import Wide.All
import OpenK.AllK
import Wide.FinOn
import HandS.ForMost
import HandS.IsInst
import HandS.Flow
import HandS.Style
import HandS.TupAny
import HandS.TupMul
import HandS.Zip
import HandS.SortInts
import HandS.Conv
import HandS.Property
import HandS.SortKw
import HandS.MakeKwOnly
import PySem.Challenge.RW_holdsalltrees_k35_traps
set_option Elab.async false
set_option linter.all false
set_option maxRecDepth 100000
set_option maxHeartbeats 4000000
/-! Fw0: data, what a value denotes, pure mirrors, the judgements over the hand layer. -/
namespace Fw
open PySem PySem.Spec PyProof.Rows L2

/-- a class of the text: where it stands, its attributes in the order of __init__ -/
structure ClsT where
  addr : Addr
  names : List Str
/-- pure data -/
inductive D where
  | non | bl (b : Bool) | int (i : Int) | str (x : Str)
  | tup (ds : List D) | lst (ds : List D) | fl (ds : List D)
  | ins (c : Nat) (ds : List D)
  | dic (ks : List Key) (ds : List D)
  | ty (n : String)

/-- a tuple: tracked, or one of the written part -/
def TupAt (K : PySem.W.Frag) (H : Hp) (a : Addr) (xs : List V) : Prop :=
  H a = some (.tup xs) ∨
    ∃ (o : Obj) (its : Array Value) (n : Nat), K.lookup a = some o ∧ o.cls = .type "tuple" ∧ o.data = .seq its n ∧ its.size ≤ sizeLine ∧ Vals xs its.toList
theorem TupAt.sq {K : PySem.W.Frag} {H : Hp} {a : Addr} {xs : List V} (h : TupAt K H a xs) : SqT K H a xs := h.elim (fun z => .inl (.inl z)) .inr
theorem TupAt.mono {K : PySem.W.Frag} {H H' : Hp} {a : Addr} {xs : List V} (e : Same H H') (h : TupAt K H a xs) : TupAt K H' a xs := h.elim (fun z => .inl (e _ _ z)) .inr
mutual
/-- v denotes d, in the stable heap H -/
def Den (K : PySem.W.Frag) (cl : Nat → ClsT) (H : Hp) : D → V → Prop
  | .non, v => v = .non
  | .bl b, v => v = .bl b
  | .int i, v => v = .int i
  | .str x, v => v = .str x
  | .ty n, v => v = .ty n
  | .tup ds, v => ∃ a vs, v = .ref a ∧ TupAt K H a vs ∧ Dens K cl H ds vs
  | .lst ds, v => ∃ a vs, v = .ref a ∧ H a = some (.lst vs) ∧ Dens K cl H ds vs
  | .fl ds, v => ∃ a vs, v = .ref a ∧ SqL K H a vs ∧ Dens K cl H ds vs
  | .ins c ds, v => ∃ a dx vs, v = .ref a ∧ H a = some (.ins (cl c).addr dx ((cl c).names.zip vs)) ∧ Dens K cl H ds vs
  | .dic ks ds, v => ∃ a vs, v = .ref a ∧ H a = some (.dK (ks.zip vs)) ∧ ks.length = ds.length ∧ Dens K cl H ds vs
def Dens (K : PySem.W.Frag) (cl : Nat → ClsT) (H : Hp) : List D → List V → Prop
  | [], vs => vs = []
  | d :: ds, vs => ∃ v r, vs = v :: r ∧ Den K cl H d v ∧ Dens K cl H ds r
end
/-- observed: a list may stand outside the stable heap -/
def Obs (K : PySem.W.Frag) (cl : Nat → ClsT) (G H : Hp) : D → V → Prop
  | .lst ds, v => ∃ a vs, v = .ref a ∧ H a = some (.lst vs) ∧ Dens K cl G ds vs
  | .ins c ds, v => ∃ a dx vs, v = .ref a ∧ H a = some (.ins (cl c).addr dx ((cl c).names.zip vs)) ∧ Dens K cl G ds vs
  | .dic ks ds, v => ∃ a vs, v = .ref a ∧ H a = some (.dK (ks.zip vs)) ∧ ks.length = ds.length ∧ Dens K cl G ds vs
  | d, v => Den K cl G d v

theorem same_seqT {K : PySem.W.Frag} {H H' : Hp} {a : Addr} {xs : List V} (e : Same H H') (h : SqT K H a xs) : SqT K H' a xs := by
  rcases h with (h | ⟨o, h⟩) | h
  · exact .inl (.inl (e _ _ h))
  · exact .inl (.inr ⟨o, e _ _ h⟩)
  · exact .inr h
section
variable {K : PySem.W.Frag} {cl : Nat → ClsT} {G G' H H' : Hp}
mutual
theorem Den.mono (h : Same H H') : ∀ (d : D) (v : V), Den K cl H d v → Den K cl H' d v
  | .non, _, q => by simpa only [Den] using q
  | .bl b, _, q => by simpa only [Den] using q
  | .int i, _, q => by simpa only [Den] using q
  | .str x, _, q => by simpa only [Den] using q
  | .ty n, _, q => by simpa only [Den] using q
  | .tup ds, v, q => by
    simp only [Den] at q ⊢
    obtain ⟨a, vs, e, s, r⟩ := q
    exact ⟨a, vs, e, s.mono h, Dens.mono h ds vs r⟩
  | .lst ds, v, q => by
    simp only [Den] at q ⊢
    obtain ⟨a, vs, e, s, r⟩ := q
    exact ⟨a, vs, e, h _ _ s, Dens.mono h ds vs r⟩
  | .fl ds, v, q => by
    simp only [Den] at q ⊢
    obtain ⟨a, vs, e, s, r⟩ := q
    exact ⟨a, vs, e, h.seq s, Dens.mono h ds vs r⟩
  | .ins c ds, v, q => by
    simp only [Den] at q ⊢
    obtain ⟨a, dx, vs, e, s, r⟩ := q
    exact ⟨a, dx, vs, e, h _ _ s, Dens.mono h ds vs r⟩
  | .dic ks ds, v, q => by
    simp only [Den] at q ⊢
    obtain ⟨a, vs, e, s, l, r⟩ := q
    exact ⟨a, vs, e, h _ _ s, l, Dens.mono h ds vs r⟩
theorem Dens.mono (h : Same H H') : ∀ (ds : List D) (vs : List V), Dens K cl H ds vs → Dens K cl H' ds vs
  | [], _, q => by simpa only [Dens] using q
  | d :: ds, vs, q => by
    simp only [Dens] at q ⊢
    obtain ⟨v, r, e, q1, q2⟩ := q
    exact ⟨v, r, e, Den.mono h d v q1, Dens.mono h ds r q2⟩
end
theorem Dens.length : ∀ {ds : List D} {vs : List V}, Dens K cl H ds vs → vs.length = ds.length
  | [], _, q => by
    simp only [Dens] at q
    rw [q]
    rfl
  | d :: ds, vs, q => by
    simp only [Dens] at q
    obtain ⟨v, r, e, _, q2⟩ := q
    rw [e, List.length_cons, List.length_cons, Dens.length q2]
theorem Dens.get : ∀ {ds : List D} {vs : List V} {i : Nat} {v : V}, Dens K cl H ds vs → vs[i]? = some v → ∃ d, ds[i]? = some d ∧ Den K cl H d v
  | [], _, i, v, q, e => by
    simp only [Dens] at q
    rw [q] at e
    simp at e
  | d :: ds, vs, 0, v, q, e => by
    simp only [Dens] at q
    obtain ⟨u, r, rfl, q1, _⟩ := q
    cases (show some u = some v from e)
    exact ⟨d, rfl, q1⟩
  | d :: ds, vs, i + 1, v, q, e => by
    simp only [Dens] at q
    obtain ⟨u, r, rfl, _, q2⟩ := q
    obtain ⟨d', e1, e2⟩ := Dens.get (i := i) (v := v) q2 (by simpa using e)
    exact ⟨d', by simpa using e1, e2⟩
theorem Dens.get' : ∀ {ds : List D} {vs : List V} {i : Nat} {d : D}, Dens K cl H ds vs → ds[i]? = some d → ∃ v, vs[i]? = some v ∧ Den K cl H d v := fun {ds vs i d} q e => by
  have hi : i < ds.length := (List.getElem?_eq_some_iff.mp e).1
  have hi' : i < vs.length := by rw [q.length]; exact hi
  obtain ⟨d', e1, e2⟩ := q.get (List.getElem?_eq_getElem hi')
  rw [e] at e1
  cases e1
  exact ⟨_, List.getElem?_eq_getElem hi', e2⟩
theorem Dens.nil : Dens K cl H [] [] := by simp only [Dens]
theorem Dens.cons {d : D} {ds : List D} {v : V} {vs : List V} (h : Den K cl H d v) (t : Dens K cl H ds vs) : Dens K cl H (d :: ds) (v :: vs) := by
  simp only [Dens]
  exact ⟨v, vs, rfl, h, t⟩
theorem Dens.append : ∀ {ds es : List D} {vs us : List V}, Dens K cl H ds vs → Dens K cl H es us → Dens K cl H (ds ++ es) (vs ++ us)
  | [], _, _, _, q, r => by
    simp only [Dens] at q
    rw [q]
    exact r
  | d :: ds, es, vs, us, q, r => by
    simp only [Dens] at q
    obtain ⟨v, t, rfl, q1, q2⟩ := q
    exact Dens.cons q1 (Dens.append q2 r)
theorem Dens.take : ∀ {ds : List D} {vs : List V} (n : Nat), Dens K cl H ds vs → Dens K cl H (ds.take n) (vs.take n)
  | ds, vs, 0, _ => by
    rw [List.take_zero, List.take_zero]
    exact Dens.nil
  | [], _, n + 1, q => by
    simp only [Dens] at q
    rw [q]
    exact Dens.nil
  | d :: ds, _, n + 1, q => by
    simp only [Dens] at q
    obtain ⟨v, t, rfl, q1, q2⟩ := q
    exact Dens.cons q1 (Dens.take n q2)
theorem Dens.drop : ∀ {ds : List D} {vs : List V} (n : Nat), Dens K cl H ds vs → Dens K cl H (ds.drop n) (vs.drop n)
  | _, _, 0, q => q
  | [], _, n + 1, q => by
    simp only [Dens] at q
    rw [q]
    exact Dens.nil
  | d :: ds, _, n + 1, q => by
    simp only [Dens] at q
    obtain ⟨v, t, rfl, q1, q2⟩ := q
    exact Dens.drop n q2
theorem Dens.set : ∀ {ds : List D} {vs : List V} {d : D} {v : V} (n : Nat), Dens K cl H ds vs → Den K cl H d v → Dens K cl H (ds.set n d) (vs.set n v)
  | [], _, _, _, n, q, _ => by
    simp only [Dens] at q
    rw [q]
    exact Dens.nil
  | d :: ds, _, _, _, 0, q, r => by
    simp only [Dens] at q
    obtain ⟨v, t, rfl, q1, q2⟩ := q
    exact Dens.cons r q2
  | d :: ds, _, _, _, n + 1, q, r => by
    simp only [Dens] at q
    obtain ⟨v, t, rfl, q1, q2⟩ := q
    exact Dens.cons q1 (Dens.set n q2 r)
theorem Dens.reverse : ∀ {ds : List D} {vs : List V}, Dens K cl H ds vs → Dens K cl H ds.reverse vs.reverse
  | [], _, q => by
    simp only [Dens] at q
    rw [q]
    exact Dens.nil
  | d :: ds, _, q => by
    simp only [Dens] at q
    obtain ⟨v, t, rfl, q1, q2⟩ := q
    rw [List.reverse_cons, List.reverse_cons]
    exact Dens.append (Dens.reverse q2) (Dens.cons q1 Dens.nil)
theorem Obs.of (hs : Same G H) {d : D} {v : V} (h : Den K cl G d v) : Obs K cl G H d v := by
  cases d with
  | lst ds =>
    simp only [Den] at h
    obtain ⟨a, vs, e, s, r⟩ := h
    exact ⟨a, vs, e, hs _ _ s, r⟩
  | ins c ds =>
    simp only [Den] at h
    obtain ⟨a, dx, vs, e, s, r⟩ := h
    exact ⟨a, dx, vs, e, hs _ _ s, r⟩
  | dic ks ds =>
    simp only [Den] at h
    obtain ⟨a, vs, e, s, l, r⟩ := h
    exact ⟨a, vs, e, hs _ _ s, l, r⟩
  | _ => exact h
theorem Obs.mono (hg : Same G G') (hh : Same H H') {d : D} {v : V} (h : Obs K cl G H d v) : Obs K cl G' H' d v := by
  cases d with
  | lst ds =>
    obtain ⟨a, vs, e, s, r⟩ := h
    exact ⟨a, vs, e, hh _ _ s, r.mono hg⟩
  | ins c ds =>
    obtain ⟨a, dx, vs, e, s, r⟩ := h
    exact ⟨a, dx, vs, e, hh _ _ s, r.mono hg⟩
  | dic ks ds =>
    obtain ⟨a, vs, e, s, l, r⟩ := h
    exact ⟨a, vs, e, hh _ _ s, l, r.mono hg⟩
  | _ => exact Den.mono hg _ _ h
/-- a whole observed value, read in the whole heap -/
theorem Obs.den (hs : Same G H) {d : D} {v : V} (h : Obs K cl G H d v) : Den K cl H d v := by
  cases d with
  | lst ds =>
    obtain ⟨a, vs, e, s, r⟩ := h
    simp only [Den]
    exact ⟨a, vs, e, s, r.mono hs⟩
  | ins c ds =>
    obtain ⟨a, dx, vs, e, s, r⟩ := h
    simp only [Den]
    exact ⟨a, dx, vs, e, s, r.mono hs⟩
  | dic ks ds =>
    obtain ⟨a, vs, e, s, l, r⟩ := h
    simp only [Den]
    exact ⟨a, vs, e, s, l, r.mono hs⟩
  | _ => exact Den.mono hs _ _ h
end

/-- nothing tracked changes; the stable part grows by new objects alone -/
structure Grow (H G H' G' : Hp) : Prop where
  hh : Same H H'
  gg : Same G G'
  sub : Same G' H'
  new : ∀ b, G' b ≠ none → G b ≠ none ∨ H b = none
theorem Grow.refl {H G : Hp} (s : Same G H) : Grow H G H G := ⟨Same.refl _, Same.refl _, s, fun _ h => .inl h⟩
theorem Grow.trans {H G H1 G1 H2 G2 : Hp} (a : Grow H G H1 G1) (b : Grow H1 G1 H2 G2) : Grow H G H2 G2 :=
  ⟨a.hh.trans b.hh, a.gg.trans b.gg, b.sub, fun c hc => (b.new c hc).elim (fun z => a.new c z) fun z => .inr (a.hh.free z)⟩
theorem same_upd {H : Hp} {p : Addr} {o : HO} (h : H p = none) : Same H (upd H p o) := fun b x e => by
  rw [upd_ne (ne_of_none e h)]
  exact e
theorem upd_none {H : Hp} {p b : Addr} {o : HO} (h : upd H p o b = none) : H b = none ∧ b ≠ p := by
  by_cases e : b = p
  · subst e
    rw [upd_same] at h
    cases h
  · rw [upd_ne e] at h
    exact ⟨h, e⟩
/-- a new object, stable -/
theorem Grow.laid {H G : Hp} {p : Addr} {o : HO} (s : Same G H) (h : H p = none) : Grow H G (upd H p o) (upd G p o) := by
  have hg : G p = none := s.free h
  refine ⟨same_upd h, same_upd hg, fun b x e => ?_, fun b hb => ?_⟩
  · by_cases q : b = p
    · subst q
      rw [upd_same] at e ⊢
      exact e
    · rw [upd_ne q] at e ⊢
      exact s _ _ e
  · by_cases q : b = p
    · exact .inr (q ▸ h)
    · rw [upd_ne q] at hb
      exact .inl hb
/-- a new object, not stable (owned) -/
theorem Grow.laidO {H G : Hp} {p : Addr} {o : HO} (s : Same G H) (h : H p = none) : Grow H G (upd H p o) G :=
  ⟨same_upd h, Same.refl _, s.trans (same_upd h), fun b hb => .inl hb⟩

/-! ### objects of one's own -/
inductive Ow where
  | lst (ds : List D)
  | dic (ks : List Key) (ds : List D)
  | obj (c : Nat) (ds : List D)
def Ow.toD : Ow → D
  | .lst ds => .lst ds
  | .dic ks ds => .dic ks ds
  | .obj c ds => .ins c ds
/-- what stands there -/
def OwOk (K : PySem.W.Frag) (cl : Nat → ClsT) (G : Hp) : Ow → HO → Prop
  | .lst ds, o => ∃ vs, o = .lst vs ∧ Dens K cl G ds vs
  | .dic ks ds, o => ∃ vs, o = .dK (ks.zip vs) ∧ ks.length = ds.length ∧ Dens K cl G ds vs
  | .obj c ds, o => ∃ dx vs, o = .ins (cl c).addr dx ((cl c).names.zip vs) ∧ Dens K cl G ds vs
section
variable {K : PySem.W.Frag} {cl : Nat → ClsT} {G G' H : Hp} {o : Ow} {ho : HO} {a : Addr}
theorem OwOk.mono (s : Same G G') (h : OwOk K cl G o ho) : OwOk K cl G' o ho := by
  cases o with
  | lst ds =>
    obtain ⟨vs, e, q⟩ := h
    exact ⟨vs, e, q.mono s⟩
  | dic ks ds =>
    obtain ⟨vs, e, l, q⟩ := h
    exact ⟨vs, e, l, q.mono s⟩
  | obj c ds =>
    obtain ⟨dx, vs, e, q⟩ := h
    exact ⟨dx, vs, e, q.mono s⟩
theorem OwOk.den (h : OwOk K cl G o ho) (ha : G a = some ho) : Den K cl G o.toD (.ref a) := by
  cases o with
  | lst ds =>
    obtain ⟨vs, rfl, q⟩ := h
    simp only [Ow.toD, Den]
    exact ⟨a, vs, rfl, ha, q⟩
  | dic ks ds =>
    obtain ⟨vs, rfl, l, q⟩ := h
    simp only [Ow.toD, Den]
    exact ⟨a, vs, rfl, ha, l, q⟩
  | obj c ds =>
    obtain ⟨dx, vs, rfl, q⟩ := h
    simp only [Ow.toD, Den]
    exact ⟨a, dx, vs, rfl, ha, q⟩
theorem OwOk.obs (h : OwOk K cl G o ho) (ha : H a = some ho) : Obs K cl G H o.toD (.ref a) := by
  cases o with
  | lst ds =>
    obtain ⟨vs, rfl, q⟩ := h
    exact ⟨a, vs, rfl, ha, q⟩
  | dic ks ds =>
    obtain ⟨vs, rfl, l, q⟩ := h
    exact ⟨a, vs, rfl, ha, l, q⟩
  | obj c ds =>
    obtain ⟨dx, vs, rfl, q⟩ := h
    exact ⟨a, dx, vs, rfl, ha, q⟩
end

/-! ### environments -/
inductive Cell where
  | no | sh (d : D) | own (o : Ow)
abbrev Env := List Cell
def cellAt : Env → Nat → Cell
  | [], _ => .no
  | c :: _, 0 => c
  | _ :: r, i + 1 => cellAt r i
theorem cellAt_get : ∀ {ρ : Env} {i : Nat} {c : Cell}, cellAt ρ i = c → c ≠ .no → ρ[i]? = some c
  | [], _, _, h, n => absurd h.symm n
  | c :: _, 0, _, h, _ => by
    subst h
    rfl
  | _ :: r, i + 1, c, h, n => by
    simpa using cellAt_get (ρ := r) (i := i) h n

structure Wd where
  cl : Nat → ClsT
  G0 : Hp
  H0 : Hp
  /-- where the object stands that an __init__ fills -/
  sf : Addr
/-- the heap over the entry -/
structure Base (w : Wd) (H G : Hp) : Prop where
  ext : Same w.H0 H
  gext : Same w.G0 G
  sub : Same G H
  new : ∀ b, G b ≠ none → w.G0 b ≠ none ∨ w.H0 b = none
theorem Base.grow {w : Wd} {H G : Hp} (b : Base w H G) : Grow w.H0 w.G0 H G := ⟨b.ext, b.gext, b.sub, b.new⟩
theorem Base.go {w : Wd} {H G H' G' : Hp} (b : Base w H G) (g : Grow H G H' G') : Base w H' G' :=
  ⟨b.ext.trans g.hh, b.gext.trans g.gg, g.sub, fun c hc => (g.new c hc).elim (fun z => b.new c z) fun z => .inr (b.ext.free z)⟩
structure Rep (K : PySem.W.Frag) (w : Wd) (σ : L2.St) (H G : Hp) (ρ : Env) : Prop where
  base : Base w H G
  len : σ.length = ρ.length
  sh : ∀ (i : Nat) (d : D), ρ[i]? = some (.sh d) → ∃ v, σ[i]? = some (some v) ∧ Den K w.cl G d v
  own : ∀ (i : Nat) (o : Ow), ρ[i]? = some (.own o) → ∃ a ho, σ[i]? = some (some (.ref a)) ∧ H a = some ho ∧ G a = none ∧ w.H0 a = none ∧ OwOk K w.cl G o ho
  slf : ∀ (i c : Nat) (ds : List D), ρ[i]? = some (.own (.obj c ds)) → σ[i]? = some (some (.ref w.sf))
  dis : ∀ (i j : Nat) (ds es : Ow) (a : Addr), ρ[i]? = some (.own ds) → ρ[j]? = some (.own es) → σ[i]? = some (some (.ref a)) → σ[j]? = some (some (.ref a)) → i = j
section
variable {K : PySem.W.Frag} {w : Wd} {σ : L2.St} {G G' H H' : Hp} {ρ : Env}
theorem Rep.go (r : Rep K w σ H G ρ) (g : Grow H G H' G') : Rep K w σ H' G' ρ := by
  refine ⟨r.base.go g, r.len, fun i d e => ?_, fun i ds e => ?_, r.slf, r.dis⟩
  · obtain ⟨v, e1, e2⟩ := r.sh i d e
    exact ⟨v, e1, e2.mono g.gg⟩
  · obtain ⟨a, vs, e1, e2, e3, e4, e5⟩ := r.own i ds e
    refine ⟨a, vs, e1, g.hh _ _ e2, ?_, e4, e5.mono g.gg⟩
    cases q : G' a with
    | none => rfl
    | some o =>
      rcases g.new a (by rw [q]; exact fun z => nomatch z) with z | z
      · exact absurd e3 z
      · rw [e2] at z
        cases z
end

/-! ### readings -/
abbrev Ef := Env → Option D
abbrev Tf := Env → Option Bool
abbrev Af := Env → Option (List D)
def tP (K : PySem.W.Frag) (w : Wd) (f : Ef) : TE := fun σ H Q => ∃ ρ G d, Rep K w σ H G ρ ∧ f ρ = some d ∧ ∀ v H' G', Grow H G H' G' → Den K w.cl G' d v → Q v H'
def tO (K : PySem.W.Frag) (w : Wd) (f : Ef) : TE := fun σ H Q => ∃ ρ G d, Rep K w σ H G ρ ∧ f ρ = some d ∧ ∀ v H' G', Grow H G H' G' → Obs K w.cl G' H' d v → Q v H'
def tF (K : PySem.W.Frag) (w : Wd) (f : Af) : TE := fun σ H Q => ∃ ρ G ds, Rep K w σ H G ρ ∧ f ρ = some ds ∧ ∀ a vs H' G', Grow H G H' G' → H a = none → H' a = some (.lst vs) → G' a = none → Dens K w.cl G' ds vs → Q (.ref a) H'
def tT (K : PySem.W.Frag) (w : Wd) (f : Tf) : TT := fun σ H Q => ∃ ρ G b, Rep K w σ H G ρ ∧ f ρ = some b ∧ ∀ H' G', Grow H G H' G' → Q b H'
def tA (K : PySem.W.Frag) (w : Wd) (f : Af) : TA := fun σ H Q => ∃ ρ G ds, Rep K w σ H G ρ ∧ f ρ = some ds ∧ ∀ vs H' G', Grow H G H' G' → Dens K w.cl G' ds vs → Q vs H'
abbrev VE (w : Wd) (X : Cx) (e : Expr) (f : Ef) : Prop := PE X e (tP X.K w f)
abbrev VO (w : Wd) (X : Cx) (e : Expr) (f : Ef) : Prop := PE X e (tO X.K w f)
abbrev VF (w : Wd) (X : Cx) (e : Expr) (f : Af) : Prop := PE X e (tF X.K w f)
def tW (K : PySem.W.Frag) (w : Wd) (f : Env → Option Ow) : TE := fun σ H Q => ∃ ρ G o, Rep K w σ H G ρ ∧ f ρ = some o ∧ ∀ a ho H' G', Grow H G H' G' → H a = none → H' a = some ho → G' a = none → OwOk K w.cl G' o ho → Q (.ref a) H'
abbrev VN (w : Wd) (X : Cx) (e : Expr) (f : Env → Option Ow) : Prop := PE X e (tW X.K w f)
abbrev VT (w : Wd) (X : Cx) (e : Expr) (f : Tf) : Prop := PT X e (tT X.K w f)
abbrev VW (w : Wd) (X : Cx) (e : Expr) (f : Tf) : Prop := PW X e (tT X.K w f)
abbrev VA (w : Wd) (X : Cx) (es : List Expr) (f : Af) : Prop := PA X es (tA X.K w f)

/-- what a statement comes to -/
inductive Out where
  | nx (ρ : Env) | bk (ρ : Env) | ct (ρ : Env)
  | rt (d : D) | rf (o : Ow)
  | stuck
abbrev Sf := Env → Out
def post (K : PySem.W.Frag) (w : Wd) (G0 : Hp) (Ds : Ends) : Out → Prop
  | .nx ρ => ∀ σ H G, Same G0 G → Rep K w σ H G ρ → Ds.nx σ H
  | .bk ρ => ∀ σ H G, Same G0 G → Rep K w σ H G ρ → Ds.bk σ H
  | .ct ρ => ∀ σ H G, Same G0 G → Rep K w σ H G ρ → Ds.ct σ H
  | .rt d => ∀ v H G, Base w H G → Den K w.cl G d v → Ds.rt v H
  | .rf o => ∀ a ho H G, Base w H G → w.H0 a = none → H a = some ho → G a = none → OwOk K w.cl G o ho → Ds.rt (.ref a) H
  | .stuck => False
def tS (K : PySem.W.Frag) (w : Wd) (F : Sf) : TS := fun Ds σ H => ∃ ρ G, Rep K w σ H G ρ ∧ post K w G Ds (F ρ)
theorem post.mono {K : PySem.W.Frag} {w : Wd} {G G' : Hp} {Ds : Ends} (h : Same G G') : ∀ {o : Out}, post K w G Ds o → post K w G' Ds o
  | .nx _, q => fun σ H G2 s => q σ H G2 (h.trans s)
  | .bk _, q => fun σ H G2 s => q σ H G2 (h.trans s)
  | .ct _, q => fun σ H G2 s => q σ H G2 (h.trans s)
  | .rt _, q => q
  | .rf _, q => q
  | .stuck, q => q
abbrev VS (w : Wd) (X : Cx) (s : Stmt) (F : Sf) : Prop := PS X s (tS X.K w F)
abbrev VSs (w : Wd) (X : Cx) (s : List Stmt) (F : Sf) : Prop := PSs X s (tS X.K w F)

/-! ### weakening -/
section
variable {X : Cx} {e : Expr} {es : List Expr} {s : Stmt} {ss : List Stmt}
theorem PE.imp {t t' : TE} (h : PE X e t) (hi : ∀ σ H Q, t' σ H Q → t σ H Q) : PE X e t' := ⟨fun pins s σ H Q I q => h.run pins s σ H Q I (hi _ _ _ q)⟩
theorem PT.imp {t t' : TT} (h : PT X e t) (hi : ∀ σ H Q, t' σ H Q → t σ H Q) : PT X e t' := ⟨fun pins s σ H Q I q => h.run pins s σ H Q I (hi _ _ _ q)⟩
theorem PW.imp {t t' : TT} (h : PW X e t) (hi : ∀ σ H Q, t' σ H Q → t σ H Q) : PW X e t' := ⟨fun wh pins s σ H Q I q => h.run wh pins s σ H Q I (hi _ _ _ q)⟩
theorem PA.imp {t t' : TA} (h : PA X es t) (hi : ∀ σ H Q, t' σ H Q → t σ H Q) : PA X es t' := ⟨fun pos pins s σ H Q I q => h.run pos pins s σ H Q I (hi _ _ _ q)⟩
theorem PS.imp {t t' : TS} (h : PS X s t) (hi : ∀ Ds σ H, t' Ds σ H → t Ds σ H) : PS X s t' := ⟨fun pins s σ H Ds I q => h.run pins s σ H Ds I (hi _ _ _ q)⟩
theorem PSs.imp {t t' : TS} (h : PSs X ss t) (hi : ∀ Ds σ H, t' Ds σ H → t Ds σ H) : PSs X ss t' := ⟨fun pins s σ H Ds I q => h.run pins s σ H Ds I (hi _ _ _ q)⟩
end

section
variable {X : Cx} {w : Wd} {e ea eb : Expr} {es : List Expr} {f g : Ef} {pos : Pos}
/-! ### coercions -/
theorem toO (h : VE w X e f) : VO w X e f := PE.imp h fun σ H Q ⟨ρ, G, d, r, hf, q⟩ => ⟨ρ, G, d, r, hf, fun v H' G' g z => q v H' G' g (Obs.of g.sub z)⟩
theorem fresh_in {H G H' G' : Hp} {a : Addr} {ho : HO} (g : Grow H G H' G') (h0 : H a = none) (h1 : H' a = some ho) (h2 : G' a = none) : Grow H G H' (upd G' a ho) := by
  have gn : Same G' (upd G' a ho) := same_upd h2
  refine ⟨g.hh, g.gg.trans gn, fun b x z => ?_, fun b hb => ?_⟩
  · by_cases hba : b = a
    · subst hba
      rw [upd_same] at z
      rw [← z]
      exact h1
    · rw [upd_ne hba] at z
      exact g.sub _ _ z
  · by_cases hba : b = a
    · exact .inr (hba ▸ h0)
    · rw [upd_ne hba] at hb
      exact g.new b hb
def fL (f : Af) : Ef := fun ρ => (f ρ).map .lst
def fW (f : Env → Option Ow) : Ef := fun ρ => (f ρ).map Ow.toD
def wL (f : Af) : Env → Option Ow := fun ρ => (f ρ).map .lst
theorem map_some2 {α β : Type} {o : Option α} {f : α → β} {b : β} (h : o.map f = some b) : ∃ a, o = some a ∧ f a = b := by
  cases o with
  | none => cases h
  | some a => exact ⟨a, rfl, Option.some.inj h⟩
theorem bind_some2 {α β : Type} {o : Option α} {f : α → Option β} {b : β} (h : o.bind f = some b) : ∃ a, o = some a ∧ f a = some b := by
  cases o with
  | none => cases h
  | some a => exact ⟨a, rfl, h⟩
theorem fL_imp {K : PySem.W.Frag} {fs : Af} : ∀ σ H Q, tP K w (fL fs) σ H Q → tF K w fs σ H Q := fun σ H Q ⟨ρ, G, d, r, hf, q⟩ => by
  obtain ⟨ds, e, rfl⟩ := map_some2 hf
  refine ⟨ρ, G, ds, r, e, fun a vs H' G' g h0 h1 h2 h3 => ?_⟩
  refine q (.ref a) H' _ (fresh_in g h0 h1 h2) ?_
  simp only [Den]
  exact ⟨a, vs, rfl, upd_same, h3.mono (same_upd h2)⟩
theorem fW_imp {K : PySem.W.Frag} {fs : Env → Option Ow} : ∀ σ H Q, tP K w (fW fs) σ H Q → tW K w fs σ H Q := fun σ H Q ⟨ρ, G, d, r, hf, q⟩ => by
  obtain ⟨o, e, rfl⟩ := map_some2 hf
  refine ⟨ρ, G, o, r, e, fun a ho H' G' g h0 h1 h2 h3 => ?_⟩
  exact q (.ref a) H' _ (fresh_in g h0 h1 h2) ((h3.mono (same_upd h2)).den upd_same)
theorem wL_imp {K : PySem.W.Frag} {fs : Af} : ∀ σ H Q, tW K w (wL fs) σ H Q → tF K w fs σ H Q := fun σ H Q ⟨ρ, G, d, r, hf, q⟩ => by
  obtain ⟨ds, e, rfl⟩ := map_some2 hf
  exact ⟨ρ, G, ds, r, e, fun a vs H' G' g h0 h1 h2 h3 => q a (.lst vs) H' G' g h0 h1 h2 ⟨vs, rfl, h3⟩⟩
theorem ofF {f : Af} (h : VF w X e f) : VE w X e (fL f) := PE.imp h fL_imp
theorem ofN {f : Env → Option Ow} (h : VN w X e f) : VE w X e (fW f) := PE.imp h fW_imp
theorem toN {f : Af} (h : VF w X e f) : VN w X e (wL f) := PE.imp h wL_imp

/-! ### sequencing -/
theorem seqE {K : PySem.W.Frag} {σ : L2.St} {H G : Hp} {ρ : Env} {d : D} {Q : VK} (r : Rep K w σ H G ρ) (hf : f ρ = some d) (q : ∀ v H' G', Grow H G H' G' → Rep K w σ H' G' ρ → Den K w.cl G' d v → Q v H') : tP K w f σ H Q :=
  ⟨ρ, G, d, r, hf, fun v H' G' g z => q v H' G' g (r.go g) z⟩
theorem seqO {K : PySem.W.Frag} {σ : L2.St} {H G : Hp} {ρ : Env} {d : D} {Q : VK} (r : Rep K w σ H G ρ) (hf : f ρ = some d) (q : ∀ v H' G', Grow H G H' G' → Rep K w σ H' G' ρ → Obs K w.cl G' H' d v → Q v H') : tO K w f σ H Q :=
  ⟨ρ, G, d, r, hf, fun v H' G' g z => q v H' G' g (r.go g) z⟩

/-! ### names, constants -/
def eVar (i : Nat) : Ef := fun ρ => match cellAt ρ i with
  | .sh d => some d
  | _ => none
theorem eVar_some {i : Nat} {ρ : Env} {d : D} (h : eVar i ρ = some d) : ρ[i]? = some (.sh d) := by
  unfold eVar at h
  split at h
  · rename_i d' e
    cases h
    exact cellAt_get e (fun z => nomatch z)
  · cases h
theorem ve_var {i : Nat} (h : PE X e (tVar i)) : VE w X e (eVar i) := PE.imp h fun σ H Q ⟨ρ, G, d, r, hf, q⟩ => by
  obtain ⟨v, e1, e2⟩ := r.sh i d (eVar_some hf)
  exact ⟨v, e1, q v H G (Grow.refl r.base.sub) e2⟩
/-- a local that may hold an object of its own, looked at -/
def eOwn (i : Nat) : Ef := fun ρ => match cellAt ρ i with
  | .own o => some o.toD
  | .sh d => some d
  | _ => none
theorem vo_var {i : Nat} (h : PE X e (tVar i)) : VO w X e (eOwn i) := PE.imp h fun σ H Q ⟨ρ, G, d, r, hf, q⟩ => by
  unfold eOwn at hf
  split at hf
  · rename_i ds e
    cases hf
    obtain ⟨a, vs, e1, e2, e3, e4, e5⟩ := r.own i ds (cellAt_get e (fun z => nomatch z))
    exact ⟨_, e1, q _ H G (Grow.refl r.base.sub) (e5.obs e2)⟩
  · rename_i d' e
    cases hf
    obtain ⟨v, e1, e2⟩ := r.sh i _ (cellAt_get e (fun z => nomatch z))
    exact ⟨v, e1, q v H G (Grow.refl r.base.sub) (Obs.of r.base.sub e2)⟩
  · cases hf
def eC (d : D) : Ef := fun _ => some d
theorem ve_int {i : Int} {j} : VE w X (.Constant (.int i) j pos) (eC (.int i)) := PE.imp pe_int fun σ H Q ⟨ρ, G, d, r, hf, q⟩ => by
  cases hf
  exact q _ H G (Grow.refl r.base.sub) (by simp only [Den])
theorem ve_bl {b : Bool} {j} : VE w X (.Constant (.bool b) j pos) (eC (.bl b)) := PE.imp pe_bl fun σ H Q ⟨ρ, G, d, r, hf, q⟩ => by
  cases hf
  exact q _ H G (Grow.refl r.base.sub) (by simp only [Den])
theorem ve_non {j} : VE w X (.Constant .none j pos) (eC .non) := PE.imp pe_non fun σ H Q ⟨ρ, G, d, r, hf, q⟩ => by
  cases hf
  exact q _ H G (Grow.refl r.base.sub) (by simp only [Den])
theorem ve_str {x : Str} {j} : VE w X (.Constant (.str x) j pos) (eC (.str x)) := PE.imp pe_str fun σ H Q ⟨ρ, G, d, r, hf, q⟩ => by
  cases hf
  exact q _ H G (Grow.refl r.base.sub) (by simp only [Den])

/-! ### two operands -/
/-- what a rule by values gives, over data -/
def Res2 (K : PySem.W.Frag) (cl : Nat → ClsT) (r : R2) (o : D → D → Option D) : Prop :=
  ∀ (d e z : D), o d e = some z → ∀ (H G : Hp) (x y : V) (Q : VK), Same G H → Obs K cl G H d x → Obs K cl G H e y → (∀ v H' G', Grow H G H' G' → Den K cl G' z v → Q v H') → r x y H Q
def eBin (o : D → D → Option D) (f g : Ef) : Ef := fun ρ => (f ρ).bind fun a => (g ρ).bind fun b => o a b
theorem eBin_some {o : D → D → Option D} {ρ : Env} {z : D} (h : eBin o f g ρ = some z) : ∃ a b, f ρ = some a ∧ g ρ = some b ∧ o a b = some z := by
  unfold eBin at h
  cases hf : f ρ with
  | none =>
    rw [hf] at h
    cases h
  | some a =>
    cases hg : g ρ with
    | none =>
      rw [hf] at h
      rw [Option.bind_some, hg] at h
      cases h
    | some b =>
      rw [hf, Option.bind_some, hg, Option.bind_some] at h
      exact ⟨a, b, rfl, rfl, h⟩
theorem op2_imp {r : R2} {o : D → D → Option D} {K : PySem.W.Frag} (hr : Res2 K w.cl r o) : ∀ σ H Q, tP K w (eBin o f g) σ H Q → tOp r (tO K w f) (tO K w g) σ H Q := fun σ H Q ⟨ρ, G, z, rp, hf, q⟩ => by
  obtain ⟨a, b, fa, gb, hz⟩ := eBin_some hf
  refine seqO rp fa fun x H1 G1 g1 r1 z1 => ?_
  refine seqO r1 gb fun y H2 G2 g2 r2 z2 => ?_
  exact hr a b z hz H2 G2 x y Q g2.sub (z1.mono g2.gg g2.hh) z2 fun v H' G' g' zz => q v H' G' (g1.trans (g2.trans g')) zz
theorem ve_bin {op : Operator} {r : R2} {o : D → D → Option D} (ho : OpR X (binaryOp op) r) (hr : Res2 X.K w.cl r o) (ha : VO w X ea f) (hb : VO w X eb g) : VE w X (.BinOp ea op eb pos) (eBin o f g) :=
  PE.imp (pe_op ho ha hb) (op2_imp hr)
theorem ve_cmp {op : CmpOp} {r : R2} {o : D → D → Option D} (ho : OpR X (compareOp op) r) (hr : Res2 X.K w.cl r o) (ha : VO w X ea f) (hb : VO w X eb g) (hm : behindInMarks op eb = false) : VE w X (.Compare ea [op] [eb] pos) (eBin o f g) :=
  PE.imp (pe_cmpR ho ha hb hm) (op2_imp hr)
/-- a value that is a bool -/
def asB : Option D → Option Bool
  | some (.bl b) => some b
  | _ => none
theorem asB_some {o : Option D} {b : Bool} (h : asB o = some b) : o = some (.bl b) := by
  unfold asB at h
  split at h
  · cases h
    rfl
  · cases h
def tB1 (f : Ef) : Tf := fun ρ => asB (f ρ)
theorem vt_imp {K : PySem.W.Frag} {t : TE} (h : ∀ σ H Q, tP K w f σ H Q → t σ H Q) : ∀ σ H Q, tT K w (tB1 f) σ H Q → tTest t σ H Q := fun σ H Q ⟨ρ, G, b, rp, hf, q⟩ => by
  refine h _ _ _ ⟨ρ, G, .bl b, rp, asB_some hf, fun v H' G' g z => ?_⟩
  simp only [Den] at z
  exact ⟨b, z, q H' G' g⟩
theorem vt_cmp {op : CmpOp} {r : R2} {o : D → D → Option D} (ho : OpR X (compareOp op) r) (hr : Res2 X.K w.cl r o) (ha : VO w X ea f) (hb : VO w X eb g) (hm : behindInMarks op eb = false) : VT w X (.Compare ea [op] [eb] pos) (tB1 (eBin o f g)) :=
  PT.imp (pt_cmpR ho ha hb hm) (vt_imp (op2_imp hr))
theorem vt_val (h : VE w X e f) (he : ∀ whole, isTrue e X.env whole = (do let v ← whole; standAt e.pos; holding [v] (truthy v)) := by intro _; rfl) : VT w X e (tB1 f) :=
  PT.imp (pt_val h he) fun σ H Q q => vt_imp (t := tP X.K w f) (fun _ _ _ z => z) σ H Q q
end
end Fw

/-! Fw1: operators over data. -/
namespace Fw
open PySem PySem.Spec PyProof.Rows L2
section
variable {K : PySem.W.Frag} {cl : Nat → ClsT} {G H : Hp} {v : V}
theorem den_non (h : Den K cl H .non v) : v = .non := by simpa only [Den] using h
theorem den_bl {b : Bool} (h : Den K cl H (.bl b) v) : v = .bl b := by simpa only [Den] using h
theorem den_int {i : Int} (h : Den K cl H (.int i) v) : v = .int i := by simpa only [Den] using h
theorem den_str {x : Str} (h : Den K cl H (.str x) v) : v = .str x := by simpa only [Den] using h
theorem den_ty {x : String} (h : Den K cl H (.ty x) v) : v = .ty x := by simpa only [Den] using h
theorem den_tup {ds : List D} (h : Den K cl H (.tup ds) v) : ∃ a vs, v = .ref a ∧ TupAt K H a vs ∧ Dens K cl H ds vs := by simpa only [Den] using h
theorem den_lst {ds : List D} (h : Den K cl H (.lst ds) v) : ∃ a vs, v = .ref a ∧ H a = some (.lst vs) ∧ Dens K cl H ds vs := by simpa only [Den] using h
theorem den_fl {ds : List D} (h : Den K cl H (.fl ds) v) : ∃ a vs, v = .ref a ∧ SqL K H a vs ∧ Dens K cl H ds vs := by simpa only [Den] using h
theorem den_ins {c : Nat} {ds : List D} (h : Den K cl H (.ins c ds) v) : ∃ a dx vs, v = .ref a ∧ H a = some (.ins (cl c).addr dx ((cl c).names.zip vs)) ∧ Dens K cl H ds vs := by simpa only [Den] using h
theorem mk_non : Den K cl H .non .non := by simp only [Den]
theorem mk_bl {b : Bool} : Den K cl H (.bl b) (.bl b) := by simp only [Den]
theorem mk_int {i : Int} : Den K cl H (.int i) (.int i) := by simp only [Den]
theorem mk_str {x : Str} : Den K cl H (.str x) (.str x) := by simp only [Den]
theorem mk_ty {x : String} : Den K cl H (.ty x) (.ty x) := by simp only [Den]
theorem mk_tup {ds : List D} {a : Addr} {vs : List V} (h : TupAt K H a vs) (q : Dens K cl H ds vs) : Den K cl H (.tup ds) (.ref a) := by
  simp only [Den]
  exact ⟨a, vs, rfl, h, q⟩
theorem mk_lst {ds : List D} {a : Addr} {vs : List V} (h : H a = some (.lst vs)) (q : Dens K cl H ds vs) : Den K cl H (.lst ds) (.ref a) := by
  simp only [Den]
  exact ⟨a, vs, rfl, h, q⟩
theorem obs_non (h : Obs K cl G H .non v) : v = .non := den_non (K := K) (cl := cl) (H := G) h
theorem obs_bl {b : Bool} (h : Obs K cl G H (.bl b) v) : v = .bl b := den_bl (K := K) (cl := cl) (H := G) h
theorem obs_int {i : Int} (h : Obs K cl G H (.int i) v) : v = .int i := den_int (K := K) (cl := cl) (H := G) h
theorem obs_str {x : Str} (h : Obs K cl G H (.str x) v) : v = .str x := den_str (K := K) (cl := cl) (H := G) h
theorem obs_ty {x : String} (h : Obs K cl G H (.ty x) v) : v = .ty x := den_ty (K := K) (cl := cl) (H := G) h
theorem obs_tup {ds : List D} (h : Obs K cl G H (.tup ds) v) : ∃ a vs, v = .ref a ∧ TupAt K G a vs ∧ Dens K cl G ds vs := den_tup (K := K) (cl := cl) (H := G) h
theorem obs_lst {ds : List D} (h : Obs K cl G H (.lst ds) v) : ∃ a vs, v = .ref a ∧ H a = some (.lst vs) ∧ Dens K cl G ds vs := h
theorem obs_fl {ds : List D} (h : Obs K cl G H (.fl ds) v) : ∃ a vs, v = .ref a ∧ SqL K G a vs ∧ Dens K cl G ds vs := den_fl (K := K) (cl := cl) (H := G) h
theorem obs_ins {c : Nat} {ds : List D} (h : Obs K cl G H (.ins c ds) v) : ∃ a dx vs, v = .ref a ∧ H a = some (.ins (cl c).addr dx ((cl c).names.zip vs)) ∧ Dens K cl G ds vs := h
theorem den_dic {ks : List Key} {ds : List D} (h : Den K cl H (.dic ks ds) v) : ∃ a vs, v = .ref a ∧ H a = some (.dK (ks.zip vs)) ∧ ks.length = ds.length ∧ Dens K cl H ds vs := by simpa only [Den] using h
theorem obs_dic {ks : List Key} {ds : List D} (h : Obs K cl G H (.dic ks ds) v) : ∃ a vs, v = .ref a ∧ H a = some (.dK (ks.zip vs)) ∧ ks.length = ds.length ∧ Dens K cl G ds vs := h
end

/-- a rule that gives a new list -/
def ResF2 (K : PySem.W.Frag) (cl : Nat → ClsT) (r : R2) (o : D → D → Option (List D)) : Prop :=
  ∀ (d e : D) (zs : List D), o d e = some zs → ∀ (H G : Hp) (x y : V) (Q : VK), Same G H → Obs K cl G H d x → Obs K cl G H e y →
    (∀ a vs H' G', Grow H G H' G' → H a = none → H' a = some (.lst vs) → G' a = none → Dens K cl G' zs vs → Q (.ref a) H') → r x y H Q
/-- a new tuple -/
theorem new_tup {K : PySem.W.Frag} {cl : Nat → ClsT} {H G : Hp} {p : Addr} {ds : List D} {vs : List V} {Q : VK} (s : Same G H) (hp : H p = none) (hd : Dens K cl G ds vs) (q : ∀ v H' G', Grow H G H' G' → Den K cl G' (.tup ds) v → Q v H') : Q (.ref p) (upd H p (.tup vs)) :=
  q _ _ (upd G p (.tup vs)) (Grow.laid s hp) (mk_tup (.inl upd_same) (hd.mono (same_upd (s.free hp))))
theorem new_lst {K : PySem.W.Frag} {cl : Nat → ClsT} {H G : Hp} {p : Addr} {ds : List D} {vs : List V} {Q : VK} (s : Same G H) (hp : H p = none) (hd : Dens K cl G ds vs)
    (q : ∀ a vs H' G', Grow H G H' G' → H a = none → H' a = some (.lst vs) → G' a = none → Dens K cl G' ds vs → Q (.ref a) H') : Q (.ref p) (upd H p (.lst vs)) :=
  q p vs _ G (Grow.laidO s hp) hp upd_same (s.free hp) hd
theorem dens_len {K : PySem.W.Frag} {cl : Nat → ClsT} {H : Hp} {ds : List D} {vs : List V} (h : Dens K cl H ds vs) : vs.length = ds.length := h.length
theorem line_le {n : Nat} (h : n ≤ 16777216) : n ≤ sizeLine := by rw [sizeLine_eq]; exact h
theorem line_lt {n : Nat} (h : n < 16777216) : n < sizeLine := by rw [sizeLine_eq]; exact h
section
variable {K : PySem.W.Frag} {cl : Nat → ClsT} {f g : Ef} {w : Wd} {X : Cx} {ea eb : Expr} {pos : Pos}
def oCatL (d e : D) : Option (List D) := match d, e with
  | .lst a, .lst b => if a.length + b.length ≤ 16777216 then some (a ++ b) else none
  | _, _ => none
theorem r_catL : ResF2 K cl rCat oCatL := by
  intro d e zs hz H G x y Q s hx hy q
  unfold oCatL at hz
  split at hz
  · rename_i a b
    split at hz
    · rename_i hl
      cases hz
      obtain ⟨p, vs, rfl, h1, h2⟩ := obs_lst hx
      obtain ⟨p', us, rfl, h3, h4⟩ := obs_lst hy
      exact ⟨p, p', vs, us, rfl, rfl, h1, h3, line_le (by rw [h2.length, h4.length]; exact hl), fun r hr => new_lst s hr (h2.append h4) q⟩
    · cases hz
  · cases hz
def oAdd (d e : D) : Option D := match d, e with
  | .int i, .int j => some (.int (i + j))
  | .str a, .str b => if a.length + b.length ≤ 16777216 then some (.str (a ++ b)) else none
  | .tup a, .tup b => if a.length + b.length ≤ 16777216 then some (.tup (a ++ b)) else none
  | .lst a, .lst b => if a.length + b.length ≤ 16777216 then some (.lst (a ++ b)) else none
  | _, _ => none
def rAddD (K : PySem.W.Frag) : R2 := fun x y H Q => rI0 (fun i j => .int (i + j)) x y H Q ∨ (∃ i j, x = .str i ∧ y = .str j ∧ i.length + j.length ≤ sizeLine ∧ Q (.str (i ++ j)) H) ∨ rCatA K x y H Q ∨ rCat x y H Q
theorem op_addD : OpR X (binaryOp .Add) (rAddD X.K) := op_add.or (op_add_str.or (op_catA.or op_cat))
theorem r_add : Res2 K cl (rAddD K) oAdd := by
  intro d e z hz H G x y Q s hx hy q
  unfold oAdd at hz
  split at hz
  · rename_i i j
    cases hz
    exact .inl ⟨i, j, obs_int hx, obs_int hy, q _ H G (Grow.refl s) mk_int⟩
  · rename_i a b
    split at hz
    · rename_i hl
      cases hz
      exact .inr (.inl ⟨a, b, obs_str hx, obs_str hy, line_le hl, q _ H G (Grow.refl s) mk_str⟩)
    · cases hz
  · rename_i a b
    split at hz
    · rename_i hl
      cases hz
      obtain ⟨p, vs, rfl, h1, h2⟩ := obs_tup hx
      obtain ⟨p', us, rfl, h3, h4⟩ := obs_tup hy
      refine .inr (.inr (.inl ⟨p, p', vs, us, rfl, rfl, same_seqT s h1.sq, same_seqT s h3.sq, line_le (by rw [h2.length, h4.length]; exact hl), fun e => ?_, fun _ e => ?_, fun _ _ r hr => new_tup s hr (h2.append h4) q⟩))
      · have ea : a = [] := by
          have z := h2.length
          rw [e] at z
          exact List.length_eq_zero_iff.mp z.symm
        rw [ea, List.nil_append] at q
        exact q _ H G (Grow.refl s) (mk_tup h3 h4)
      · have eb : b = [] := by
          have z := h4.length
          rw [e] at z
          exact List.length_eq_zero_iff.mp z.symm
        rw [eb, List.append_nil] at q
        exact q _ H G (Grow.refl s) (mk_tup h1 h2)
    · cases hz
  · rename_i a b
    split at hz
    · rename_i hl
      cases hz
      obtain ⟨p, vs, rfl, h1, h2⟩ := obs_lst hx
      obtain ⟨p', us, rfl, h3, h4⟩ := obs_lst hy
      refine .inr (.inr (.inr ⟨p, p', vs, us, rfl, rfl, h1, h3, line_le (by rw [h2.length, h4.length]; exact hl), fun r hr => ?_⟩))
      exact q _ _ (upd G r (.lst (vs ++ us))) (Grow.laid s hr) (mk_lst upd_same ((h2.append h4).mono (same_upd (s.free hr))))
    · cases hz
  · cases hz
def oInt (C : Int → Int → Bool) (F : Int → Int → Int) (d e : D) : Option D := match d, e with
  | .int i, .int j => if C i j = true then some (.int (F i j)) else none
  | _, _ => none
theorem r_int {C : Int → Int → Bool} {C' : Int → Int → Prop} {F : Int → Int → Int} (hC : ∀ i j, C i j = true → C' i j) : Res2 K cl (rI C' fun i j => .int (F i j)) (oInt C F) := by
  intro d e z hz H G x y Q s hx hy q
  unfold oInt at hz
  split at hz
  · rename_i i j
    split at hz
    · rename_i hc
      cases hz
      exact ⟨i, j, obs_int hx, obs_int hy, hC i j hc, q _ H G (Grow.refl s) mk_int⟩
    · cases hz
  · cases hz
def oSub : D → D → Option D := oInt (fun _ _ => true) fun i j => i - j
theorem r_sub : Res2 K cl (rI0 fun i j => .int (i - j)) oSub := by
  intro d e z hz H G x y Q s hx hy q
  unfold oSub oInt at hz
  split at hz
  · rename_i i j
    cases hz
    exact ⟨i, j, obs_int hx, obs_int hy, q _ H G (Grow.refl s) mk_int⟩
  · cases hz
def oFdiv : D → D → Option D := oInt (fun _ j => decide (0 < j ∧ j < 1073741824)) fun i j => i / j
theorem r_fdiv : Res2 K cl (rI CDiv fun i j => .int (i / j)) oFdiv := r_int fun i j h => by
  have h' := of_decide_eq_true h
  exact h'
def oMod : D → D → Option D := oInt (fun _ j => decide (0 < j)) fun i j => i % j
theorem r_mod : Res2 K cl (rI (fun _ j => 0 < j) fun i j => .int (i % j)) oMod := r_int fun i j h => by simpa using h
def oPow : D → D → Option D := oInt (fun i j => decide (0 ≤ j ∧ j ≤ 1000000 ∧ i.natAbs < 18446744073709551616)) fun i j => i ^ j.toNat
theorem r_pow : Res2 K cl (rI CPow fun i j => .int (i ^ j.toNat)) oPow := r_int fun i j h => by
  have h' := of_decide_eq_true h
  exact ⟨h'.1, h'.2.1, h'.2.2⟩
def mulC (i j : Int) : Bool := decide ((-18446744073709551616 < i ∧ i < 18446744073709551616) ∨ (-18446744073709551616 < j ∧ j < 18446744073709551616))
theorem mulC_ok (i j : Int) (h : mulC i j = true) : CMul i j := by
  have h' := of_decide_eq_true h
  exact h'
def oMulI : D → D → Option D := oInt mulC fun i j => i * j
theorem r_mulI : Res2 K cl (rI CMul fun i j => .int (i * j)) oMulI := r_int mulC_ok
/-- [..] * k -/
def oRepL (d e : D) : Option (List D) := match d, e with
  | .lst a, .int k => if k < 16777216 ∧ -16777216 < k ∧ a.length * k.toNat ≤ 16777216 then some (List.replicate k.toNat a).flatten else none
  | _, _ => none
theorem Dens.rep {H : Hp} {ds : List D} {vs : List V} (h : Dens K cl H ds vs) : ∀ n : Nat, Dens K cl H (List.replicate n ds).flatten (List.replicate n vs).flatten
  | 0 => Dens.nil
  | n + 1 => by
    rw [List.replicate_succ, List.replicate_succ, List.flatten_cons, List.flatten_cons]
    exact h.append (Dens.rep h n)
theorem r_repL : ResF2 K cl rRep oRepL := by
  intro d e zs hz H G x y Q s hx hy q
  unfold oRepL at hz
  split at hz
  · rename_i a k
    split at hz
    · rename_i hl
      cases hz
      obtain ⟨p, vs, rfl, h1, h2⟩ := obs_lst hx
      exact ⟨p, k, vs, rfl, obs_int hy, h1, by omega, by omega, line_le (by rw [h2.length]; exact hl.2.2), fun r hr => new_lst s hr (h2.rep _) q⟩
    · cases hz
  · cases hz
/-! ### comparisons of ints and of texts -/
def oCmp (p : Int → Int → Bool) (d e : D) : Option D := match d, e with
  | .int i, .int j => some (.bl (p i j))
  | _, _ => none
theorem r_cmp {p : Int → Int → Bool} : Res2 K cl (rI0 fun i j => .bl (p i j)) (oCmp p) := by
  intro d e z hz H G x y Q s hx hy q
  unfold oCmp at hz
  split at hz
  · rename_i i j
    cases hz
    exact ⟨i, j, obs_int hx, obs_int hy, q _ H G (Grow.refl s) mk_bl⟩
  · cases hz
def oLt : D → D → Option D := oCmp fun i j => decide (i < j)
def oLe : D → D → Option D := oCmp fun i j => decide (i ≤ j)
def oGt : D → D → Option D := oCmp fun i j => decide (j < i)
def oGe : D → D → Option D := oCmp fun i j => decide (j ≤ i)
/-! ### == and != -/
mutual
def py : D → Option PyData
  | .non => some .none
  | .bl b => some (.bool b)
  | .int i => some (.int i)
  | .str x => some (.str x)
  | .tup ds => (pys ds).map .tuple
  | .lst ds => (pys ds).map .list
  | .fl ds => (pys ds).map .list
  | .ins _ _ => none
  | .dic _ _ => none
  | .ty _ => none
def pys : List D → Option (List PyData)
  | [] => some []
  | d :: ds => (py d).bind fun x => (pys ds).map fun r => x :: r
end
mutual
theorem py_dp {H : Hp} : ∀ (d : D) (x : PyData) (v : V), py d = some x → Den K cl H d v → Dp K H v x
  | .non, x, v, e, h => by
    rw [den_non h]
    simp only [py] at e
    cases e
    exact .non
  | .bl b, x, v, e, h => by
    rw [den_bl h]
    simp only [py] at e
    cases e
    exact .bl b
  | .int i, x, v, e, h => by
    rw [den_int h]
    simp only [py] at e
    cases e
    exact .int i
  | .str z, x, v, e, h => by
    rw [den_str h]
    simp only [py] at e
    cases e
    exact .str z
  | .tup ds, x, v, e, h => by
    obtain ⟨a, vs, rfl, h1, h2⟩ := den_tup h
    simp only [py] at e
    cases ee : pys ds with
    | none =>
      rw [ee] at e
      cases e
    | some xs =>
      rw [ee] at e
      cases e
      exact .tup h1.sq (pys_dp ds xs vs ee h2)
  | .lst ds, x, v, e, h => by
    obtain ⟨a, vs, rfl, h1, h2⟩ := den_lst h
    simp only [py] at e
    cases ee : pys ds with
    | none =>
      rw [ee] at e
      cases e
    | some xs =>
      rw [ee] at e
      cases e
      exact .lst (.inl (.inl h1)) (pys_dp ds xs vs ee h2)
  | .fl ds, x, v, e, h => by
    obtain ⟨a, vs, rfl, h1, h2⟩ := den_fl h
    simp only [py] at e
    cases ee : pys ds with
    | none =>
      rw [ee] at e
      cases e
    | some xs =>
      rw [ee] at e
      cases e
      exact .lst h1 (pys_dp ds xs vs ee h2)
  | .ins _ _, x, v, e, h => by
    simp only [py] at e
    cases e
  | .dic _ _, x, v, e, h => by
    simp only [py] at e
    cases e
  | .ty _, x, v, e, h => by
    simp only [py] at e
    cases e
theorem pys_dp {H : Hp} : ∀ (ds : List D) (xs : List PyData) (vs : List V), pys ds = some xs → Dens K cl H ds vs → DpAll K H vs xs
  | [], xs, vs, e, h => by
    simp only [Dens] at h
    simp only [pys] at e
    cases e
    rw [h]
    exact .nil
  | d :: ds, xs, vs, e, h => by
    simp only [Dens] at h
    obtain ⟨v, r, rfl, h1, h2⟩ := h
    simp only [pys] at e
    cases e1 : py d with
    | none =>
      rw [e1] at e
      cases e
    | some x =>
      cases e2 : pys ds with
      | none =>
        rw [e1, e2] at e
        cases e
      | some ys =>
        rw [e1, e2] at e
        cases e
        exact .cons (py_dp d x v e1 h1) (pys_dp ds ys r e2 h2)
end
theorem pyO_dp {G H : Hp} (s : Same G H) {d : D} {x : PyData} {v : V} (e : py d = some x) (h : Obs K cl G H d v) : Dp K H v x := py_dp d x v e (h.den s)
/-- equality of data as the model reckons it (nothing if it is not plain data) -/
def deq (d e : D) : Option Bool := match d, e with
  | .int i, .int j => some (decide (i = j))
  | .str x, .str y => some (decide (x = y))
  | .bl x, .bl y => some (decide (x = y))
  | .non, .non => some true
  | d, e => (py d).bind fun x => (py e).bind fun y => if SeqAt.shaped x = true ∧ SeqAt.shaped y = true then some (PyData.eqv x y) else none
def oEq (d e : D) : Option D := (deq d e).map .bl
def oNe (d e : D) : Option D := (deq d e).map fun b => .bl (!b)
def rEqB (K : PySem.W.Frag) : R2 := fun x y H Q => rEq x y H Q ∨ rEqD K x y H Q
def rNeB (K : PySem.W.Frag) : R2 := fun x y H Q => rNe x y H Q ∨ rNeD K x y H Q
theorem op_eqB (hu : X.A.units + 64 < cLine) : OpR X (compareOp .Eq) (rEqB X.K) := op_eq.or (op_eqD hu)
theorem op_neB (hu : X.A.units + 64 < cLine) : OpR X (compareOp .NotEq) (rNeB X.K) := op_ne.or (op_neD hu)
theorem deq_ok {d e : D} {b : Bool} (h : deq d e = some b) {H G : Hp} {x y : V} (s : Same G H) (hx : Obs K cl G H d x) (hy : Obs K cl G H e y) :
    (scal x y = true ∧ decide (x = y) = b) ∨ ∃ p q, Dp K H x p ∧ Dp K H y q ∧ SeqAt.shaped p = true ∧ SeqAt.shaped q = true ∧ PyData.eqv p q = b := by
  unfold deq at h
  split at h
  · cases h
    rw [obs_int hx, obs_int hy]
    exact .inl ⟨rfl, by simp⟩
  · cases h
    rw [obs_str hx, obs_str hy]
    exact .inl ⟨rfl, by simp⟩
  · cases h
    rw [obs_bl hx, obs_bl hy]
    exact .inl ⟨rfl, by simp⟩
  · cases h
    rw [obs_non hx, obs_non hy]
    exact .inr ⟨.none, .none, .non, .non, by decide +kernel, by decide +kernel, by simp [PyData.eqv]⟩
  · cases e1 : py d with
    | none =>
      rw [e1] at h
      cases h
    | some p =>
      cases e2 : py e with
      | none =>
        rw [e1, e2] at h
        cases h
      | some q =>
        rw [e1, e2, Option.bind_some, Option.bind_some] at h
        split at h
        · rename_i hs
          cases h
          exact .inr ⟨p, q, pyO_dp s e1 hx, pyO_dp s e2 hy, hs.1, hs.2, rfl⟩
        · cases h
theorem r_eq : Res2 K cl (rEqB K) oEq := by
  intro d e z hz H G x y Q s hx hy q
  unfold oEq at hz
  cases hd : deq d e with
  | none =>
    rw [hd] at hz
    cases hz
  | some b =>
    rw [hd] at hz
    cases hz
    have q' := q (.bl b) H G (Grow.refl s) mk_bl
    rcases deq_ok hd s hx hy with ⟨h1, h2⟩ | ⟨p, r, h1, h2, h3, h4, h5⟩
    · exact .inl ⟨h1, by rw [h2]; exact q'⟩
    · exact .inr ⟨p, r, h1, h2, h3, h4, by rw [h5]; exact q'⟩
theorem r_ne : Res2 K cl (rNeB K) oNe := by
  intro d e z hz H G x y Q s hx hy q
  unfold oNe at hz
  cases hd : deq d e with
  | none =>
    rw [hd] at hz
    cases hz
  | some b =>
    rw [hd] at hz
    cases hz
    have q' := q (.bl !b) H G (Grow.refl s) mk_bl
    rcases deq_ok hd s hx hy with ⟨h1, h2⟩ | ⟨p, r, h1, h2, h3, h4, h5⟩
    · exact .inl ⟨h1, by rw [h2]; exact q'⟩
    · exact .inr ⟨p, r, h1, h2, h3, h4, by rw [h5]; exact q'⟩
/-! ### is None -/
def isNonD : D → Bool
  | .non => true
  | _ => false
theorem isNon_ok {G H : Hp} {d : D} {x : V} (h : Obs K cl G H d x) : decide (x = .non) = isNonD d := by
  cases d with
  | non => rw [obs_non h]; rfl
  | bl b => rw [obs_bl h]; rfl
  | int i => rw [obs_int h]; rfl
  | str z => rw [obs_str h]; rfl
  | ty z => rw [obs_ty h]; rfl
  | tup ds =>
    obtain ⟨a, vs, rfl, _⟩ := obs_tup h
    rfl
  | lst ds =>
    obtain ⟨a, vs, rfl, _⟩ := obs_lst h
    rfl
  | fl ds =>
    obtain ⟨a, vs, rfl, _⟩ := obs_fl h
    rfl
  | ins c ds =>
    obtain ⟨a, dx, vs, rfl, _⟩ := obs_ins h
    rfl
  | dic ks ds =>
    obtain ⟨a, vs, rfl, _⟩ := obs_dic h
    rfl
def oIsN (d e : D) : Option D := match e with
  | .non => some (.bl (isNonD d))
  | _ => none
def oNotN (d e : D) : Option D := match e with
  | .non => some (.bl (!isNonD d))
  | _ => none
theorem r_isN : Res2 K cl (fun x y H Q => y = .non ∧ Q (.bl (decide (x = .non))) H) oIsN := by
  intro d e z hz H G x y Q s hx hy q
  unfold oIsN at hz
  split at hz
  · cases hz
    refine ⟨obs_non hy, ?_⟩
    rw [isNon_ok hx]
    exact q _ H G (Grow.refl s) mk_bl
  · cases hz
theorem r_notN : Res2 K cl (fun x y H Q => y = .non ∧ Q (.bl (!decide (x = .non))) H) oNotN := by
  intro d e z hz H G x y Q s hx hy q
  unfold oNotN at hz
  split at hz
  · cases hz
    refine ⟨obs_non hy, ?_⟩
    rw [isNon_ok hx]
    exact q _ H G (Grow.refl s) mk_bl
  · cases hz
/-! ### in -/
def flatD : D → Bool
  | .non | .bl _ | .int _ | .str _ => true
  | _ => false
def vOf : D → V
  | .non => .non
  | .bl b => .bl b
  | .int i => .int i
  | .str x => .str x
  | _ => .non
theorem flat_den {H : Hp} {d : D} {v : V} (h : Den K cl H d v) (f : flatD d = true) : v = vOf d ∧ flatV v = true := by
  cases d with
  | non => rw [den_non h]; exact ⟨rfl, rfl⟩
  | bl b => rw [den_bl h]; exact ⟨rfl, rfl⟩
  | int i => rw [den_int h]; exact ⟨rfl, rfl⟩
  | str z => rw [den_str h]; exact ⟨rfl, rfl⟩
  | _ => cases f
theorem flat_obs {G H : Hp} {d : D} {v : V} (h : Obs K cl G H d v) (f : flatD d = true) : v = vOf d ∧ flatV v = true := by
  cases d with
  | non => rw [obs_non h]; exact ⟨rfl, rfl⟩
  | bl b => rw [obs_bl h]; exact ⟨rfl, rfl⟩
  | int i => rw [obs_int h]; exact ⟨rfl, rfl⟩
  | str z => rw [obs_str h]; exact ⟨rfl, rfl⟩
  | _ => cases f
theorem flat_dens {H : Hp} : ∀ {ds : List D} {vs : List V}, Dens K cl H ds vs → ds.all flatD = true → vs = ds.map vOf ∧ vs.all flatV = true
  | [], _, h, _ => by
    simp only [Dens] at h
    rw [h]
    exact ⟨rfl, rfl⟩
  | d :: ds, _, h, f => by
    simp only [Dens] at h
    obtain ⟨v, r, rfl, h1, h2⟩ := h
    rw [List.all_cons, Bool.and_eq_true] at f
    obtain ⟨e1, e2⟩ := flat_den h1 f.1
    obtain ⟨e3, e4⟩ := flat_dens h2 f.2
    refine ⟨by rw [List.map_cons, ← e1, ← e3], ?_⟩
    rw [List.all_cons, e2, e4]
    rfl
def inD (x : D) (ys : List D) : Bool := inV (vOf x) (ys.map vOf)
def itemsOf : D → Option (List D)
  | .lst ds => some ds
  | .fl ds => some ds
  | .tup ds => some ds
  | _ => none
theorem items_ok {G H : Hp} (s : Same G H) {d : D} {ds : List D} {v : V} (h : Obs K cl G H d v) (e : itemsOf d = some ds) : ∃ a vs, v = .ref a ∧ (SqL K H a vs ∨ SqT K H a vs) ∧ Dens K cl G ds vs := by
  cases d with
  | lst es =>
    cases e
    obtain ⟨a, vs, rfl, h1, h2⟩ := obs_lst h
    exact ⟨a, vs, rfl, .inl (.inl (.inl h1)), h2⟩
  | fl es =>
    cases e
    obtain ⟨a, vs, rfl, h1, h2⟩ := obs_fl h
    exact ⟨a, vs, rfl, .inl (s.seq h1), h2⟩
  | tup es =>
    cases e
    obtain ⟨a, vs, rfl, h1, h2⟩ := obs_tup h
    exact ⟨a, vs, rfl, .inr (same_seqT s h1.sq), h2⟩
  | _ => cases e
def oIn (neg : Bool) (d e : D) : Option D := match d, e with
  | .str a, .str b => if neg then some (.bl (!(!(Builtin.Str.occurrences b a 0 b.length 1).isEmpty))) else some (.bl (!(Builtin.Str.occurrences b a 0 b.length 1).isEmpty))
  | d, e => (itemsOf e).bind fun ys => if flatD d = true ∧ ys.all flatD = true then some (.bl (if neg then !inD d ys else inD d ys)) else none
def rInD (K : PySem.W.Frag) : R2 := fun x y H Q => rIn K false x y H Q ∨ (∃ i j, x = .str i ∧ y = .str j ∧ Q (.bl (!(Builtin.Str.occurrences j i 0 j.length 1).isEmpty)) H)
def rNotInD (K : PySem.W.Frag) : R2 := fun x y H Q => rIn K true x y H Q ∨ (∃ i j, x = .str i ∧ y = .str j ∧ Q (.bl (!(!(Builtin.Str.occurrences j i 0 j.length 1).isEmpty))) H)
theorem op_inD : OpR X (compareOp .In) (rInD X.K) := op_in_seq.or op_in_str
theorem op_notInD : OpR X (compareOp .NotIn) (rNotInD X.K) := op_notIn_seq.or op_notIn_str
theorem r_in : Res2 K cl (rInD K) (oIn false) := by
  intro d e z hz H G x y Q s hx hy q
  unfold oIn at hz
  split at hz
  · rename_i a b
    cases hz
    exact .inr ⟨a, b, obs_str hx, obs_str hy, q _ H G (Grow.refl s) mk_bl⟩
  · cases e1 : itemsOf e with
    | none =>
      rw [e1] at hz
      cases hz
    | some ys =>
      rw [e1, Option.bind_some] at hz
      split at hz
      · rename_i hf
        cases hz
        obtain ⟨p, vs, rfl, h1, h2⟩ := items_ok s hy e1
        obtain ⟨e2, e3⟩ := flat_obs hx hf.1
        obtain ⟨e4, e5⟩ := flat_dens h2 hf.2
        refine .inl ⟨p, vs, rfl, h1, e3, e5, ?_⟩
        rw [e2, e4]
        exact q _ H G (Grow.refl s) mk_bl
      · cases hz
theorem r_notIn : Res2 K cl (rNotInD K) (oIn true) := by
  intro d e z hz H G x y Q s hx hy q
  unfold oIn at hz
  split at hz
  · rename_i a b
    cases hz
    exact .inr ⟨a, b, obs_str hx, obs_str hy, q _ H G (Grow.refl s) mk_bl⟩
  · cases e1 : itemsOf e with
    | none =>
      rw [e1] at hz
      cases hz
    | some ys =>
      rw [e1, Option.bind_some] at hz
      split at hz
      · rename_i hf
        cases hz
        obtain ⟨p, vs, rfl, h1, h2⟩ := items_ok s hy e1
        obtain ⟨e2, e3⟩ := flat_obs hx hf.1
        obtain ⟨e4, e5⟩ := flat_dens h2 hf.2
        refine .inl ⟨p, vs, rfl, h1, e3, e5, ?_⟩
        rw [e2, e4]
        exact q _ H G (Grow.refl s) mk_bl
      · cases hz
/-! ### items, slices -/
/-- the item at an index of any sign -/
def ixD (xs : List D) (i : Int) : Option D := if 0 ≤ i then xs[i.toNat]? else if -(xs.length : Int) ≤ i then xs[(i + xs.length).toNat]? else none
theorem ixD_ok {H : Hp} {ds : List D} {vs : List V} {i : Int} {d : D} (h : Dens K cl H ds vs) (e : ixD ds i = some d) : ∃ v, atI vs i = some v ∧ Den K cl H d v := by
  have hl := h.length
  unfold ixD at e
  unfold atI ixN
  by_cases h0 : 0 ≤ i
  · rw [if_pos h0] at e
    obtain ⟨v, e1, e2⟩ := h.get' e
    have hlt : i.toNat < vs.length := (List.getElem?_eq_some_iff.mp e1).1
    rw [if_pos h0, if_pos (by omega), Option.bind_some]
    exact ⟨v, e1, e2⟩
  · rw [if_neg h0] at e
    split at e
    · rename_i h1
      obtain ⟨v, e1, e2⟩ := h.get' e
      rw [if_neg h0, if_pos (by rw [hl]; exact h1), Option.bind_some, hl]
      exact ⟨v, e1, e2⟩
    · cases e
def oIx (d e : D) : Option D := match d, e with
  | .str z, .int i => if z.length ≤ 16777216 then (atI z.cps.toList i).map fun c => .str ⟨#[c]⟩ else none
  | d, .int i => (itemsOf d).bind fun ds => ixD ds i
  | _, _ => none
theorem r_ix : Res2 K cl (rIx K) oIx := by
  intro d e z hz H G x y Q s hx hy q
  unfold oIx at hz
  split at hz
  · rename_i a i
    split at hz
    · rename_i hl
      cases ea : atI a.cps.toList i with
      | none =>
        rw [ea] at hz
        cases hz
      | some c =>
        rw [ea] at hz
        cases hz
        exact .inr (.inr ⟨a, i, c, obs_str hx, obs_int hy, line_le hl, ea, q _ H G (Grow.refl s) mk_str⟩)
    · cases hz
  · rename_i i _
    cases e1 : itemsOf d with
    | none =>
      rw [e1] at hz
      cases hz
    | some ys =>
      rw [e1, Option.bind_some] at hz
      obtain ⟨p, vs, rfl, h1, h2⟩ := items_ok s hx e1
      obtain ⟨v, e2, e3⟩ := ixD_ok h2 hz
      rcases h1 with h1 | h1
      · exact .inl ⟨p, vs, i, v, rfl, obs_int hy, h1, e2, q _ H G (Grow.refl s) e3⟩
      · exact .inr (.inl ⟨p, vs, i, v, rfl, obs_int hy, h1, e2, q _ H G (Grow.refl s) e3⟩)
  · cases hz
def cutD (xs : List D) (lo hi : Option Int) : List D := (xs.drop (HT.sIx xs.length 0 lo)).take (HT.sIx xs.length xs.length hi - HT.sIx xs.length 0 lo)
theorem cutD_ok {H : Hp} {ds : List D} {vs : List V} (h : Dens K cl H ds vs) (lo hi : Option Int) : Dens K cl H (cutD ds lo hi) (cutV vs lo hi) := by
  unfold cutD cutV
  rw [h.length]
  exact (h.drop _).take _
end
end Fw

/-! Fw2: arguments, calls of built-ins, displays, items, tests. -/
namespace Fw
open PySem PySem.Spec PyProof.Rows L2

/-! ### arguments -/
def ObsL (K : PySem.W.Frag) (cl : Nat → ClsT) (G H : Hp) : List D → List V → Prop
  | [], vs => vs = []
  | d :: ds, vs => ∃ v r, vs = v :: r ∧ Obs K cl G H d v ∧ ObsL K cl G H ds r
theorem ObsL.mono {K : PySem.W.Frag} {cl : Nat → ClsT} {G G' H H' : Hp} (hg : Same G G') (hh : Same H H') : ∀ {ds : List D} {vs : List V}, ObsL K cl G H ds vs → ObsL K cl G' H' ds vs
  | [], _, h => h
  | _ :: _, _, ⟨v, r, e, h1, h2⟩ => ⟨v, r, e, h1.mono hg hh, h2.mono hg hh⟩
def tAo (K : PySem.W.Frag) (w : Wd) (f : Af) : TA := fun σ H Q => ∃ ρ G ds, Rep K w σ H G ρ ∧ f ρ = some ds ∧ ∀ vs H' G', Grow H G H' G' → ObsL K w.cl G' H' ds vs → Q vs H'
abbrev VAo (w : Wd) (X : Cx) (es : List Expr) (f : Af) : Prop := PA X es (tAo X.K w f)
def aNil : Af := fun _ => some []
def aCons (f : Ef) (g : Af) : Af := fun ρ => (f ρ).bind fun d => (g ρ).map fun ds => d :: ds
theorem aCons_some {f : Ef} {g : Af} {ρ : Env} {ds : List D} (h : aCons f g ρ = some ds) : ∃ d r, f ρ = some d ∧ g ρ = some r ∧ ds = d :: r := by
  unfold aCons at h
  cases e1 : f ρ with
  | none =>
    rw [e1] at h
    cases h
  | some d =>
    cases e2 : g ρ with
    | none =>
      rw [e1, e2] at h
      cases h
    | some r =>
      rw [e1, e2] at h
      cases h
      exact ⟨d, r, rfl, rfl, rfl⟩
section
variable {X : Cx} {w : Wd} {e ea eb : Expr} {es : List Expr} {f g : Ef} {fs : Af} {pos p : Pos} {x : Str}
theorem va_nil : VA w X [] aNil := PA.imp pa_nil fun σ H Q ⟨ρ, G, ds, r, hf, q⟩ => by
  cases hf
  exact q [] H G (Grow.refl r.base.sub) Dens.nil
theorem va_cons (h : VE w X e f) (t : VA w X es fs) (hs : starEach (e :: es) X.env = (false, eval e X.env) :: starEach es X.env := by rfl) : VA w X (e :: es) (aCons f fs) := PA.imp (pa_cons h t hs) fun σ H Q ⟨ρ, G, ds, r, hf, q⟩ => by
  obtain ⟨d, l, e1, e2, rfl⟩ := aCons_some hf
  refine seqE r e1 fun v H1 G1 g1 r1 z1 => ?_
  exact ⟨ρ, G1, l, r1, e2, fun vs H2 G2 g2 z2 => q (v :: vs) H2 G2 (g1.trans g2) (Dens.cons (z1.mono g2.gg) z2)⟩
theorem vo_nil : VAo w X [] aNil := PA.imp pa_nil fun σ H Q ⟨ρ, G, ds, r, hf, q⟩ => by
  cases hf
  exact q [] H G (Grow.refl r.base.sub) rfl
theorem vo_cons (h : VO w X e f) (t : VAo w X es fs) (hs : starEach (e :: es) X.env = (false, eval e X.env) :: starEach es X.env := by rfl) : VAo w X (e :: es) (aCons f fs) := PA.imp (pa_cons h t hs) fun σ H Q ⟨ρ, G, ds, r, hf, q⟩ => by
  obtain ⟨d, l, e1, e2, rfl⟩ := aCons_some hf
  refine seqO r e1 fun v H1 G1 g1 r1 z1 => ?_
  exact ⟨ρ, G1, l, r1, e2, fun vs H2 G2 g2 z2 => q (v :: vs) H2 G2 (g1.trans g2) ⟨v, vs, rfl, z1.mono g2.gg g2.hh, z2⟩⟩

/-! ### displays -/
def eTup (f : Af) : Ef := fun ρ => (f ρ).bind fun ds => if ds.length ≤ 16777216 then some (.tup ds) else none
theorem ve_tup {k : Nat} (h : VA w X es fs) : VE w X (.Tuple es k pos) (eTup fs) := PE.imp (pe_tup h) fun σ H Q ⟨ρ, G, d, r, hf, q⟩ => by
  unfold eTup at hf
  cases e1 : fs ρ with
  | none =>
    rw [e1] at hf
    cases hf
  | some ds =>
    rw [e1, Option.bind_some] at hf
    split at hf
    · rename_i hl
      cases hf
      refine ⟨ρ, G, _, r, e1, fun vs H1 G1 g1 z1 => ⟨line_le (by rw [z1.length]; exact hl), fun a ha => ?_⟩⟩
      exact new_tup g1.sub ha z1 fun v H' G' g' z' => q v H' G' (g1.trans g') z'
    · cases hf
def aLst (f : Af) : Af := fun ρ => (f ρ).bind fun ds => if ds.length ≤ 16777216 then some ds else none
theorem vf_lst (h : VA w X es fs) : VF w X (.List es pos) (aLst fs) := PE.imp (pe_lst h) fun σ H Q ⟨ρ, G, d, r, hf, q⟩ => by
  unfold aLst at hf
  cases e1 : fs ρ with
  | none =>
    rw [e1] at hf
    cases hf
  | some ds =>
    rw [e1, Option.bind_some] at hf
    split at hf
    · rename_i hl
      cases hf
      refine ⟨ρ, G, _, r, e1, fun vs H1 G1 g1 z1 => ⟨line_le (by rw [z1.length]; exact hl), fun a ha => ?_⟩⟩
      exact new_lst g1.sub ha z1 fun a us H' G' g' h0 h1 h2 z' => q a us H' G' (g1.trans g') (g1.hh.free h0) h1 h2 z'
    · cases hf

/-! ### two operands with a new list -/
def aBin (o : D → D → Option (List D)) (f g : Ef) : Af := fun ρ => (f ρ).bind fun a => (g ρ).bind fun b => o a b
theorem aBin_some {o : D → D → Option (List D)} {ρ : Env} {z : List D} (h : aBin o f g ρ = some z) : ∃ a b, f ρ = some a ∧ g ρ = some b ∧ o a b = some z := by
  unfold aBin at h
  cases hf : f ρ with
  | none =>
    rw [hf] at h
    cases h
  | some a =>
    cases hg : g ρ with
    | none =>
      rw [hf] at h
      rw [Option.bind_some, hg] at h
      cases h
    | some b =>
      rw [hf, Option.bind_some, hg, Option.bind_some] at h
      exact ⟨a, b, rfl, rfl, h⟩
theorem vf_bin {op : Operator} {r : R2} {o : D → D → Option (List D)} (ho : OpR X (binaryOp op) r) (hr : ResF2 X.K w.cl r o) (ha : VO w X ea f) (hb : VO w X eb g) : VF w X (.BinOp ea op eb pos) (aBin o f g) :=
  PE.imp (pe_op ho ha hb) fun σ H Q ⟨ρ, G, z, rp, hf, q⟩ => by
    obtain ⟨a, b, fa, gb, hz⟩ := aBin_some hf
    refine seqO rp fa fun x H1 G1 g1 r1 z1 => ?_
    refine seqO r1 gb fun y H2 G2 g2 r2 z2 => ?_
    exact hr a b z hz H2 G2 x y Q g2.sub (z1.mono g2.gg g2.hh) z2 fun a vs H' G' g' h0 h1 h2 zz => q a vs H' G' (g1.trans (g2.trans g')) (g1.hh.free (g2.hh.free h0)) h1 h2 zz

/-! ### one operand -/
def e1o (o : D → Option D) (f : Ef) : Ef := fun ρ => (f ρ).bind o
def oNeg : D → Option D
  | .int i => some (.int (-i))
  | _ => none
theorem ve_neg (ha : VO w X ea f) : VE w X (.UnaryOp .USub ea pos) (e1o oNeg f) := PE.imp (pe_un un_neg ha) fun σ H Q ⟨ρ, G, z, rp, hf, q⟩ => by
  unfold e1o at hf
  cases e1 : f ρ with
  | none =>
    rw [e1] at hf
    cases hf
  | some d =>
    rw [e1, Option.bind_some] at hf
    unfold oNeg at hf
    split at hf
    · rename_i i
      cases hf
      exact seqO rp e1 fun v H1 G1 g1 r1 z1 => ⟨i, obs_int z1, q _ H1 G1 g1 mk_int⟩
    · cases hf

/-! ### items, slices -/
theorem ve_ix (ha : VO w X ea f) (hb : VO w X eb g) (hs : PlainIx eb) : VE w X (.Subscript ea eb pos) (eBin oIx f g) := PE.imp (pe_ix ix_seq ha hb hs) (op2_imp r_ix)
def tPart (K : PySem.W.Frag) (w : Wd) (f : Env → Option (Option Int)) : TO := fun σ H Q => ∃ ρ G o, Rep K w σ H G ρ ∧ f ρ = some o ∧ ∀ H' G', Grow H G H' G' → Q o H'
abbrev VP (w : Wd) (X : Cx) (e : Option Expr) (f : Env → Option (Option Int)) : Prop := PO X e (tPart X.K w f)
theorem PO.imp {e : Option Expr} {t t' : TO} (h : PO X e t) (hi : ∀ σ H Q, t' σ H Q → t σ H Q) : PO X e t' := ⟨fun pins s σ H Q I q => h.run pins s σ H Q I (hi _ _ _ q)⟩
def pNo : Env → Option (Option Int) := fun _ => some none
def asI : Option D → Option Int
  | some (.int i) => some i
  | _ => none
theorem asI_some {o : Option D} {i : Int} (h : asI o = some i) : o = some (.int i) := by
  unfold asI at h
  split at h
  · cases h
    rfl
  · cases h
def pSome (f : Ef) : Env → Option (Option Int) := fun ρ => (asI (f ρ)).map some
theorem vp_no : VP w X none pNo := PO.imp po_none fun σ H Q ⟨ρ, G, o, rp, hf, q⟩ => by
  cases hf
  exact q H G (Grow.refl rp.base.sub)
theorem vp_some (h : VO w X e f) : VP w X (some e) (pSome f) := PO.imp (po_some h) fun σ H Q ⟨ρ, G, o, rp, hf, q⟩ => by
  unfold pSome at hf
  cases e1 : asI (f ρ) with
  | none =>
    rw [e1] at hf
    cases hf
  | some i =>
    rw [e1] at hf
    cases hf
    exact seqO rp (asI_some e1) fun v H1 G1 g1 r1 z1 => ⟨i, obs_int z1, q H1 G1 g1⟩
def oSl (d : D) (lo hi : Option Int) : Option D := match d with
  | .str z => if z.length ≤ 16777216 then some (.str (cutS z lo hi)) else none
  | .tup ds => some (.tup (cutD ds lo hi))
  | _ => none
def rSlD (K : PySem.W.Frag) : V → Option Int → Option Int → Hp → VK → Prop := fun x lo hi H Q => rSlA K x lo hi H Q ∨ rSlS x lo hi H Q
theorem sl_D : SlR X (rSlD X.K) := sl_tupA.or sl_str
def eSl (o : D → Option Int → Option Int → Option D) (f : Ef) (l h : Env → Option (Option Int)) : Ef := fun ρ => (f ρ).bind fun d => (l ρ).bind fun a => (h ρ).bind fun b => o d a b
def aSl (f : Ef) (l h : Env → Option (Option Int)) : Af := fun ρ => match f ρ with
  | some (.lst ds) => (l ρ).bind fun a => (h ρ).map fun b => cutD ds a b
  | some (.fl ds) => (l ρ).bind fun a => (h ρ).map fun b => cutD ds a b
  | _ => none
theorem cutV_whole {xs : List V} {lo hi : Option Int} (h : HT.sIx xs.length 0 lo = 0 ∧ HT.sIx xs.length xs.length hi = xs.length) : cutV xs lo hi = xs := by
  unfold cutV
  rw [h.1, h.2, List.drop_zero, Nat.sub_zero, List.take_length]
theorem cutD_whole {xs : List D} {lo hi : Option Int} (h : HT.sIx xs.length 0 lo = 0 ∧ HT.sIx xs.length xs.length hi = xs.length) : cutD xs lo hi = xs := by
  unfold cutD
  rw [h.1, h.2, List.drop_zero, Nat.sub_zero, List.take_length]
theorem ve_sl {lo hi : Option Expr} {pl ph : Env → Option (Option Int)} {p2 : Pos} (ha : VO w X ea f) (hl : VP w X lo pl) (hh : VP w X hi ph) : VE w X (.Subscript ea (.Slice lo hi none p2) pos) (eSl oSl f pl ph) :=
  PE.imp (pe_slice sl_D ha hl hh) fun σ H Q ⟨ρ, G, z, rp, hf, q⟩ => by
    unfold eSl at hf
    cases e1 : f ρ with
    | none =>
      rw [e1] at hf
      cases hf
    | some d =>
      cases e2 : pl ρ with
      | none =>
        rw [e1, Option.bind_some, e2] at hf
        cases hf
      | some a =>
        cases e3 : ph ρ with
        | none =>
          rw [e1, Option.bind_some, e2, Option.bind_some, e3] at hf
          cases hf
        | some b =>
          rw [e1, Option.bind_some, e2, Option.bind_some, e3, Option.bind_some] at hf
          refine seqO rp e1 fun v H1 G1 g1 r1 z1 => ?_
          refine ⟨ρ, G1, a, r1, e2, fun H2 G2 g2 => ⟨ρ, G2, b, r1.go g2, e3, fun H3 G3 g3 => ?_⟩⟩
          have z3 := z1.mono (g2.trans g3).gg (g2.trans g3).hh
          have gg := g1.trans (g2.trans g3)
          unfold oSl at hf
          split at hf
          · rename_i s
            split at hf
            · rename_i hl
              cases hf
              exact .inr ⟨s, obs_str z3, line_le hl, q _ H3 G3 gg mk_str⟩
            · cases hf
          · rename_i ds
            cases hf
            obtain ⟨p, vs, rfl, h1, h2⟩ := obs_tup z3
            refine .inl ⟨p, vs, rfl, same_seqT g3.sub h1.sq, fun hw => ?_, fun _ r hr => ?_⟩
            · refine q _ H3 G3 gg (mk_tup h1 ?_)
              have hw' := hw
              rw [h2.length] at hw'
              rw [cutD_whole hw']
              exact h2
            · exact new_tup g3.sub hr (cutD_ok h2 a b) fun v H' G' g' z' => q v H' G' (gg.trans g') z'
          · cases hf
theorem vf_sl {lo hi : Option Expr} {pl ph : Env → Option (Option Int)} {p2 : Pos} (ha : VO w X ea f) (hl : VP w X lo pl) (hh : VP w X hi ph) : VF w X (.Subscript ea (.Slice lo hi none p2) pos) (aSl f pl ph) :=
  PE.imp (pe_slice sl_list ha hl hh) fun σ H Q ⟨ρ, G, z, rp, hf, q⟩ => by
    have key : ∀ (d : D) (ds : List D), f ρ = some d → itemsOf d = some ds → (d = .lst ds ∨ d = .fl ds) → ((pl ρ).bind fun a => (ph ρ).map fun b => cutD ds a b) = some z →
        tSl (rSlL X.K) (tO X.K w f) (tPart X.K w pl) (tPart X.K w ph) σ H Q := by
      intro d ds e1 ei ed hf
      cases e2 : pl ρ with
      | none =>
        rw [e2] at hf
        cases hf
      | some a =>
        cases e3 : ph ρ with
        | none =>
          rw [e2, Option.bind_some, e3] at hf
          cases hf
        | some b =>
          rw [e2, Option.bind_some, e3] at hf
          cases hf
          refine seqO rp e1 fun v H1 G1 g1 r1 z1 => ?_
          refine ⟨ρ, G1, a, r1, e2, fun H2 G2 g2 => ⟨ρ, G2, b, r1.go g2, e3, fun H3 G3 g3 => ?_⟩⟩
          have z3 := z1.mono (g2.trans g3).gg (g2.trans g3).hh
          have gg := g1.trans (g2.trans g3)
          have : ∃ a' vs, v = .ref a' ∧ SqL X.K H3 a' vs ∧ Dens X.K w.cl G3 ds vs := by
            rcases ed with rfl | rfl
            · obtain ⟨a', vs, e, h1, h2⟩ := obs_lst z3
              exact ⟨a', vs, e, .inl (.inl h1), h2⟩
            · obtain ⟨a', vs, e, h1, h2⟩ := obs_fl z3
              exact ⟨a', vs, e, g3.sub.seq h1, h2⟩
          obtain ⟨p, vs, rfl, h1, h2⟩ := this
          exact ⟨p, vs, rfl, h1, fun r hr => new_lst g3.sub hr (cutD_ok h2 a b) fun a us H' G' g' h0 h1 h2 z' => q a us H' G' (gg.trans g') (gg.hh.free h0) h1 h2 z'⟩
    unfold aSl at hf
    split at hf
    · rename_i ds e1
      exact key _ ds e1 rfl (.inl rfl) hf
    · rename_i ds e1
      exact key _ ds e1 rfl (.inr rfl) hf
    · cases hf

/-! ### and, or, not, if .. else -/
def eAnd (f g : Ef) : Ef := fun ρ => match f ρ with
  | some (.bl true) => g ρ
  | some (.bl false) => some (.bl false)
  | _ => none
def eOr (f g : Ef) : Ef := fun ρ => match f ρ with
  | some (.bl true) => some (.bl true)
  | some (.bl false) => g ρ
  | _ => none
def oNot : D → Option D
  | .bl b => some (.bl (!b))
  | _ => none
theorem ve_one {op} (h : VE w X e f) : VE w X (.BoolOp op [e] pos) f := pe_one h
theorem ve_and {rest : List Expr} (ha : VE w X ea f) (hb : VE w X (.BoolOp .And (eb :: rest) pos) g) : VE w X (.BoolOp .And (ea :: eb :: rest) pos) (eAnd f g) := PE.imp (pe_and ha hb) fun σ H Q ⟨ρ, G, z, rp, hf, q⟩ => by
  unfold eAnd at hf
  split at hf
  · rename_i e1
    exact seqE rp e1 fun v H1 G1 g1 r1 z1 => ⟨true, den_bl z1, iteT ⟨ρ, G1, z, r1, hf, fun v H2 G2 g2 => q v H2 G2 (g1.trans g2)⟩⟩
  · rename_i e1
    cases hf
    exact seqE rp e1 fun v H1 G1 g1 r1 z1 => ⟨false, den_bl z1, iteF (q _ H1 G1 g1 mk_bl)⟩
  · cases hf
theorem ve_or {rest : List Expr} (ha : VE w X ea f) (hb : VE w X (.BoolOp .Or (eb :: rest) pos) g) : VE w X (.BoolOp .Or (ea :: eb :: rest) pos) (eOr f g) := PE.imp (pe_or ha hb) fun σ H Q ⟨ρ, G, z, rp, hf, q⟩ => by
  unfold eOr at hf
  split at hf
  · rename_i e1
    cases hf
    exact seqE rp e1 fun v H1 G1 g1 r1 z1 => ⟨true, den_bl z1, iteT (q _ H1 G1 g1 mk_bl)⟩
  · rename_i e1
    exact seqE rp e1 fun v H1 G1 g1 r1 z1 => ⟨false, den_bl z1, iteF ⟨ρ, G1, z, r1, hf, fun v H2 G2 g2 => q v H2 G2 (g1.trans g2)⟩⟩
  · cases hf
theorem ve_not (ha : VE w X ea f) : VE w X (.UnaryOp .Not ea pos) (e1o oNot f) := PE.imp (pe_not ha) fun σ H Q ⟨ρ, G, z, rp, hf, q⟩ => by
  unfold e1o at hf
  cases e1 : f ρ with
  | none =>
    rw [e1] at hf
    cases hf
  | some d =>
    rw [e1, Option.bind_some] at hf
    unfold oNot at hf
    split at hf
    · rename_i b
      cases hf
      exact seqE rp e1 fun v H1 G1 g1 r1 z1 => ⟨b, den_bl z1, q _ H1 G1 g1 mk_bl⟩
    · cases hf
def tAndF (f g : Tf) : Tf := fun ρ => match f ρ with
  | some true => g ρ
  | some false => some false
  | none => none
def tOrF (f g : Tf) : Tf := fun ρ => match f ρ with
  | some true => some true
  | some false => g ρ
  | none => none
def tNotF (f : Tf) : Tf := fun ρ => (f ρ).map fun b => !b
theorem vw_and1 {t : Tf} (h : VT w X e t) : VW w X (.BoolOp .And [e] pos) t := pw_and1 h
theorem vw_or1 {t : Tf} (h : VT w X e t) : VW w X (.BoolOp .Or [e] pos) t := pw_or1 h
theorem seqT {K : PySem.W.Frag} {σ : L2.St} {H G : Hp} {ρ : Env} {t : Tf} {b : Bool} {Q : Bool → Hp → Prop} (r : Rep K w σ H G ρ) (hf : t ρ = some b) (q : ∀ H' G', Grow H G H' G' → Rep K w σ H' G' ρ → Q b H') : tT K w t σ H Q :=
  ⟨ρ, G, b, r, hf, fun H' G' g => q H' G' g (r.go g)⟩
theorem vw_and {rest : List Expr} {t u : Tf} (ha : VT w X ea t) (hb : VW w X (.BoolOp .And (eb :: rest) pos) u) : VW w X (.BoolOp .And (ea :: eb :: rest) pos) (tAndF t u) := PW.imp (pw_and ha hb) fun σ H Q ⟨ρ, G, z, rp, hf, q⟩ => by
  unfold tAndF at hf
  split at hf
  · rename_i e1
    exact seqT rp e1 fun H1 G1 g1 r1 => iteT ⟨ρ, G1, z, r1, hf, fun H2 G2 g2 => q H2 G2 (g1.trans g2)⟩
  · rename_i e1
    cases hf
    exact seqT rp e1 fun H1 G1 g1 r1 => iteF (q H1 G1 g1)
  · cases hf
theorem vw_or {rest : List Expr} {t u : Tf} (ha : VT w X ea t) (hb : VW w X (.BoolOp .Or (eb :: rest) pos) u) : VW w X (.BoolOp .Or (ea :: eb :: rest) pos) (tOrF t u) := PW.imp (pw_or ha hb) fun σ H Q ⟨ρ, G, z, rp, hf, q⟩ => by
  unfold tOrF at hf
  split at hf
  · rename_i e1
    cases hf
    exact seqT rp e1 fun H1 G1 g1 r1 => iteT (q H1 G1 g1)
  · rename_i e1
    exact seqT rp e1 fun H1 G1 g1 r1 => iteF ⟨ρ, G1, z, r1, hf, fun H2 G2 g2 => q H2 G2 (g1.trans g2)⟩
  · cases hf
theorem vt_w {t : Tf} (h : VW w X e t) : VT w X e t := h.pt
theorem vt_not {t : Tf} (h : VT w X e t) : VT w X (.UnaryOp .Not e pos) (tNotF t) := PT.imp (pt_not h) fun σ H Q ⟨ρ, G, z, rp, hf, q⟩ => by
  unfold tNotF at hf
  cases e1 : t ρ with
  | none =>
    rw [e1] at hf
    cases hf
  | some b =>
    rw [e1] at hf
    cases hf
    exact seqT rp e1 fun H1 G1 g1 r1 => q H1 G1 g1
def eIf (t : Tf) (f g : Ef) : Ef := fun ρ => match t ρ with
  | some true => f ρ
  | some false => g ρ
  | none => none
theorem ve_if {c : Expr} {t : Tf} (hc : VT w X c t) (ha : VE w X ea f) (hb : VE w X eb g) : VE w X (.IfExp c ea eb pos) (eIf t f g) := PE.imp (pe_ifExp hc ha hb) fun σ H Q ⟨ρ, G, z, rp, hf, q⟩ => by
  unfold eIf at hf
  split at hf
  · rename_i e1
    exact seqT rp e1 fun H1 G1 g1 r1 => iteT ⟨ρ, G1, z, r1, hf, fun v H2 G2 g2 => q v H2 G2 (g1.trans g2)⟩
  · rename_i e1
    exact seqT rp e1 fun H1 G1 g1 r1 => iteF ⟨ρ, G1, z, r1, hf, fun v H2 G2 g2 => q v H2 G2 (g1.trans g2)⟩
  · cases hf
/-- a < b < c -/
def tChainF (o o' : D → D → Option D) (f g h : Ef) : Ef := fun ρ => (f ρ).bind fun a => (g ρ).bind fun b => match o a b with
  | some (.bl true) => (h ρ).bind fun c => o' b c
  | some (.bl false) => some (.bl false)
  | _ => none
end
end Fw

/-! Fw3: calls of built-ins; statements; loops; comprehensions; defs. -/
namespace Fw
open PySem PySem.Spec PyProof.Rows L2

/-! ### built-ins -/
def ResC (K : PySem.W.Frag) (cl : Nat → ClsT) (r : List V → Hp → VK → Prop) (o : List D → Option D) : Prop :=
  ∀ (ds : List D) (z : D), o ds = some z → ∀ (H G : Hp) (vs : List V) (Q : VK), Same G H → ObsL K cl G H ds vs → (∀ v H' G', Grow H G H' G' → Den K cl G' z v → Q v H') → r vs H Q
def ResCF (K : PySem.W.Frag) (cl : Nat → ClsT) (r : List V → Hp → VK → Prop) (o : List D → Option (List D)) : Prop :=
  ∀ (ds : List D) (zs : List D), o ds = some zs → ∀ (H G : Hp) (vs : List V) (Q : VK), Same G H → ObsL K cl G H ds vs →
    (∀ a us H' G', Grow H G H' G' → H a = none → H' a = some (.lst us) → G' a = none → Dens K cl G' zs us → Q (.ref a) H') → r vs H Q
def eArgs (o : List D → Option D) (f : Af) : Ef := fun ρ => (f ρ).bind o
def aArgs (o : List D → Option (List D)) (f : Af) : Af := fun ρ => (f ρ).bind o
section
variable {X : Cx} {w : Wd} {e ea eb : Expr} {es : List Expr} {f g : Ef} {fs : Af} {pos p : Pos} {x : Str} {K : PySem.W.Frag} {cl : Nat → ClsT} {id : String}
theorem callC_imp {r : List V → Hp → VK → Prop} {o : List D → Option D} (hr : ResC K w.cl r o) : ∀ σ H Q, tP K w (eArgs o fs) σ H Q → tCB r (tAo K w fs) σ H Q := fun σ H Q ⟨ρ, G, z, rp, hf, q⟩ => by
  unfold eArgs at hf
  cases e1 : fs ρ with
  | none =>
    rw [e1] at hf
    cases hf
  | some ds =>
    rw [e1, Option.bind_some] at hf
    exact ⟨ρ, G, ds, rp, e1, fun vs H1 G1 g1 z1 => hr ds z hf H1 G1 vs Q g1.sub z1 fun v H' G' g' zz => q v H' G' (g1.trans g') zz⟩
theorem callCF_imp {r : List V → Hp → VK → Prop} {o : List D → Option (List D)} (hr : ResCF K w.cl r o) : ∀ σ H Q, tF K w (aArgs o fs) σ H Q → tCB r (tAo K w fs) σ H Q := fun σ H Q ⟨ρ, G, z, rp, hf, q⟩ => by
  unfold aArgs at hf
  cases e1 : fs ρ with
  | none =>
    rw [e1] at hf
    cases hf
  | some ds =>
    rw [e1, Option.bind_some] at hf
    exact ⟨ρ, G, ds, rp, e1, fun vs H1 G1 g1 z1 => hr ds z hf H1 G1 vs Q g1.sub z1 fun a us H' G' g' h0 h1 h2 zz => q a us H' G' (g1.trans g') (g1.hh.free h0) h1 h2 zz⟩
theorem ve_callB {r : List V → Hp → VK → Prop} {o : List D → Option D} (hc : CallR X (.builtin id) r) (hr : ResC X.K w.cl r o) (hg : Gl X x) (hm : X.mg x = none) (hv : bootBuiltins x = some (.builtin id)) (ha : VAo w X (e :: es) fs) (hn : x ≠ "__name__" := by decide) (hdb : (x == ("__debug__" : Str)) = false := by decide)
    (he : starEach (e :: es) X.env = (false, eval e X.env) :: starEach es X.env := by rfl) (hpl : (backTo pos (starEach es X.env)).any (·.1) = false := by rfl) : VE w X (.Call (.Name x p) (e :: es) [] pos) (eArgs o fs) :=
  PE.imp (pe_callB hc hg hm hv ha hn hdb he hpl) (callC_imp hr)
theorem ve_callTy {r : List V → Hp → VK → Prop} {o : List D → Option D} (hc : CallR X (.type id) r) (hr : ResC X.K w.cl r o) (hg : Gl X x) (hm : X.mg x = none) (hv : bootBuiltins x = some (.type id)) (ha : VAo w X (e :: es) fs) (hn : x ≠ "__name__" := by decide) (hdb : (x == ("__debug__" : Str)) = false := by decide)
    (he : starEach (e :: es) X.env = (false, eval e X.env) :: starEach es X.env := by rfl) (hpl : (backTo pos (starEach es X.env)).any (·.1) = false := by rfl) : VE w X (.Call (.Name x p) (e :: es) [] pos) (eArgs o fs) :=
  PE.imp (pe_callTy hc hg hm hv ha hn hdb he hpl) (callC_imp hr)
theorem vf_callB {r : List V → Hp → VK → Prop} {o : List D → Option (List D)} (hc : CallR X (.builtin id) r) (hr : ResCF X.K w.cl r o) (hg : Gl X x) (hm : X.mg x = none) (hv : bootBuiltins x = some (.builtin id)) (ha : VAo w X (e :: es) fs) (hn : x ≠ "__name__" := by decide) (hdb : (x == ("__debug__" : Str)) = false := by decide)
    (he : starEach (e :: es) X.env = (false, eval e X.env) :: starEach es X.env := by rfl) (hpl : (backTo pos (starEach es X.env)).any (·.1) = false := by rfl) : VF w X (.Call (.Name x p) (e :: es) [] pos) (aArgs o fs) :=
  PE.imp (pe_callB hc hg hm hv ha hn hdb he hpl) (callCF_imp hr)
theorem vf_callTy {r : List V → Hp → VK → Prop} {o : List D → Option (List D)} (hc : CallR X (.type id) r) (hr : ResCF X.K w.cl r o) (hg : Gl X x) (hm : X.mg x = none) (hv : bootBuiltins x = some (.type id)) (ha : VAo w X (e :: es) fs) (hn : x ≠ "__name__" := by decide) (hdb : (x == ("__debug__" : Str)) = false := by decide)
    (he : starEach (e :: es) X.env = (false, eval e X.env) :: starEach es X.env := by rfl) (hpl : (backTo pos (starEach es X.env)).any (·.1) = false := by rfl) : VF w X (.Call (.Name x p) (e :: es) [] pos) (aArgs o fs) :=
  PE.imp (pe_callTy hc hg hm hv ha hn hdb he hpl) (callCF_imp hr)
theorem obsl1 {G H : Hp} {d : D} {vs : List V} (h : ObsL K cl G H [d] vs) : ∃ v, vs = [v] ∧ Obs K cl G H d v := by
  obtain ⟨v, r, e, h1, h2⟩ := h
  have h2 : r = [] := h2
  exact ⟨v, by rw [e, h2], h1⟩
theorem obsl2 {G H : Hp} {d d' : D} {vs : List V} (h : ObsL K cl G H [d, d'] vs) : ∃ v u, vs = [v, u] ∧ Obs K cl G H d v ∧ Obs K cl G H d' u := by
  obtain ⟨v, r, e, h1, h2⟩ := h
  obtain ⟨u, e2, h3⟩ := obsl1 h2
  exact ⟨v, u, by rw [e, e2], h1, h3⟩
def oLen : List D → Option D
  | [.str z] => if z.length ≤ 16777216 then some (.int z.length) else none
  | [d] => (itemsOf d).map fun ds => .int ds.length
  | _ => none
theorem r_len : ResC K cl (fun xs H Q => ∃ x n, xs = [x] ∧ LenV K x H n ∧ Q (.int n) H) oLen := by
  intro ds z hz H G vs Q s hv q
  unfold oLen at hz
  split at hz
  · rename_i y
    split at hz
    · rename_i hl
      cases hz
      obtain ⟨v, rfl, h1⟩ := obsl1 hv
      rw [obs_str h1]
      exact ⟨_, y.length, rfl, ⟨line_le hl, rfl⟩, q _ H G (Grow.refl s) mk_int⟩
    · cases hz
  · rename_i d _
    cases e1 : itemsOf d with
    | none =>
      rw [e1] at hz
      cases hz
    | some ys =>
      rw [e1] at hz
      cases hz
      obtain ⟨v, rfl, h1⟩ := obsl1 hv
      obtain ⟨p, vs, rfl, h2, h3⟩ := items_ok s h1 e1
      refine ⟨_, ys.length, rfl, ?_, q _ H G (Grow.refl s) mk_int⟩
      rcases h2 with h2 | h2
      · exact .inl ⟨vs, h2, h3.length.symm⟩
      · exact .inr ⟨vs, h2, h3.length.symm⟩
  · cases hz
def oToInt : List D → Option D
  | [.int i] => some (.int i)
  | [.bl b] => some (.int (if b then 1 else 0))
  | _ => none
theorem r_toInt : ResC K cl (fun xs H Q => (∃ i, xs = [.int i] ∧ Q (.int i) H) ∨ ∃ k, xs = [.bl k] ∧ Q (.int (if k then 1 else 0)) H) oToInt := by
  intro ds z hz H G vs Q s hv q
  unfold oToInt at hz
  split at hz
  · rename_i i
    cases hz
    obtain ⟨v, rfl, h1⟩ := obsl1 hv
    exact .inl ⟨i, by rw [obs_int h1], q _ H G (Grow.refl s) mk_int⟩
  · rename_i b
    cases hz
    obtain ⟨v, rfl, h1⟩ := obsl1 hv
    exact .inr ⟨b, by rw [obs_bl h1], q _ H G (Grow.refl s) mk_int⟩
  · cases hz
def oMax2 : List D → Option D
  | [.int i, .int j] => some (.int (max i j))
  | _ => none
def oMin2 : List D → Option D
  | [.int i, .int j] => some (.int (min i j))
  | _ => none
theorem r_max2 : ResC K cl (fun xs H Q => ∃ i j, xs = [.int i, .int j] ∧ Q (.int (if j > i then j else i)) H) oMax2 := by
  intro ds z hz H G vs Q s hv q
  unfold oMax2 at hz
  split at hz
  · rename_i i j
    cases hz
    obtain ⟨v, u, rfl, h1, h2⟩ := obsl2 hv
    refine ⟨i, j, by rw [obs_int h1, obs_int h2], ?_⟩
    have e : (if j > i then j else i) = max i j := by
      split <;> omega
    rw [e]
    exact q _ H G (Grow.refl s) mk_int
  · cases hz
theorem r_min2 : ResC K cl (fun xs H Q => ∃ i j, xs = [.int i, .int j] ∧ Q (.int (if j < i then j else i)) H) oMin2 := by
  intro ds z hz H G vs Q s hv q
  unfold oMin2 at hz
  split at hz
  · rename_i i j
    cases hz
    obtain ⟨v, u, rfl, h1, h2⟩ := obsl2 hv
    refine ⟨i, j, by rw [obs_int h1, obs_int h2], ?_⟩
    have e : (if j < i then j else i) = min i j := by
      split <;> omega
    rw [e]
    exact q _ H G (Grow.refl s) mk_int
  · cases hz
/-- lists of ints -/
def intsOf : List D → Option (List Int)
  | [] => some []
  | .int i :: r => (intsOf r).map fun l => i :: l
  | _ :: _ => none
theorem intsOf_map : ∀ ns : List Int, intsOf (ns.map D.int) = some ns
  | [] => rfl
  | n :: r => by
    rw [List.map_cons, intsOf, intsOf_map r]
    rfl
theorem intsOf_some : ∀ {ds : List D} {ns : List Int}, intsOf ds = some ns → ds = ns.map D.int
  | [], ns, h => by
    cases h
    rfl
  | d :: r, ns, h => by
    cases d with
    | int i =>
      rw [intsOf] at h
      cases e : intsOf r with
      | none =>
        rw [e] at h
        cases h
      | some l =>
        rw [e] at h
        cases h
        rw [intsOf_some e]
        rfl
    | _ => cases h
theorem dens_ints {H : Hp} : ∀ {ns : List Int} {vs : List V}, Dens K cl H (ns.map D.int) vs → vs = ns.map V.int
  | [], _, h => by simpa only [List.map_nil, Dens] using h
  | n :: r, _, h => by
    simp only [List.map_cons, Dens] at h
    obtain ⟨v, l, rfl, h1, h2⟩ := h
    rw [den_int h1, dens_ints h2]
    rfl
theorem ints_dens {H : Hp} : ∀ (ns : List Int), Dens K cl H (ns.map D.int) (ns.map V.int)
  | [] => Dens.nil
  | n :: r => Dens.cons mk_int (ints_dens r)
def seqOf : D → Option (List D)
  | .lst ds => some ds
  | .fl ds => some ds
  | _ => none
theorem seq_ok {G H : Hp} (s : Same G H) {d : D} {ds : List D} {v : V} (h : Obs K cl G H d v) (e : seqOf d = some ds) : ∃ a vs, v = .ref a ∧ SqL K H a vs ∧ Dens K cl G ds vs := by
  cases d with
  | lst es =>
    cases e
    obtain ⟨a, vs, rfl, h1, h2⟩ := obs_lst h
    exact ⟨a, vs, rfl, .inl (.inl h1), h2⟩
  | fl es =>
    cases e
    obtain ⟨a, vs, rfl, h1, h2⟩ := obs_fl h
    exact ⟨a, vs, rfl, s.seq h1, h2⟩
  | _ => cases e
def oSum : List D → Option D
  | [d] => ((seqOf d).bind intsOf).map fun ns => .int ns.sum
  | _ => none
theorem seqInts {G H : Hp} (s : Same G H) {d : D} {ns : List Int} {v : V} (h : Obs K cl G H d v) (e : (seqOf d).bind intsOf = some ns) : ∃ a, v = .ref a ∧ SqL K H a (ns.map V.int) := by
  obtain ⟨ds, e1, e2⟩ := bind_some2 e
  obtain ⟨a, vs, rfl, h1, h2⟩ := seq_ok s h e1
  rw [intsOf_some e2] at h2
  exact ⟨a, rfl, by rw [← dens_ints h2]; exact h1⟩
theorem r_sum : ResC K cl (rSum K) oSum := by
  intro ds z hz H G vs Q s hv q
  unfold oSum at hz
  split at hz
  · obtain ⟨ns, e1, rfl⟩ := map_some2 hz
    obtain ⟨v, rfl, h1⟩ := obsl1 hv
    obtain ⟨a, rfl, h2⟩ := seqInts s h1 e1
    exact ⟨a, ns, rfl, h2, q _ H G (Grow.refl s) mk_int⟩
  · cases hz
/-- greatest, least -/
def maxI : List Int → Option Int
  | [] => none
  | x :: r => some (r.foldl max x)
def minI : List Int → Option Int
  | [] => none
  | x :: r => some (r.foldl min x)
theorem foldl_max : ∀ (r : List Int) (x : Int), (r.foldl max x = x ∨ r.foldl max x ∈ r) ∧ x ≤ r.foldl max x ∧ ∀ y ∈ r, y ≤ r.foldl max x
  | [], x => ⟨.inl rfl, Int.le_refl _, fun _ h => nomatch h⟩
  | y :: r, x => by
    obtain ⟨h1, h2, h3⟩ := foldl_max r (max x y)
    rw [List.foldl_cons]
    refine ⟨?_, by omega, fun z hz => ?_⟩
    · rcases h1 with h1 | h1
      · rcases Int.le_total x y with h | h
        · rw [Int.max_eq_right h] at h1 ⊢
          exact .inr (by rw [h1]; exact List.mem_cons_self)
        · rw [Int.max_eq_left h] at h1 ⊢
          exact .inl h1
      · exact .inr (List.mem_cons_of_mem _ h1)
    · rcases List.mem_cons.mp hz with rfl | hz
      · omega
      · exact h3 z hz
theorem foldl_min : ∀ (r : List Int) (x : Int), (r.foldl min x = x ∨ r.foldl min x ∈ r) ∧ r.foldl min x ≤ x ∧ ∀ y ∈ r, r.foldl min x ≤ y
  | [], x => ⟨.inl rfl, Int.le_refl _, fun _ h => nomatch h⟩
  | y :: r, x => by
    obtain ⟨h1, h2, h3⟩ := foldl_min r (min x y)
    rw [List.foldl_cons]
    refine ⟨?_, by omega, fun z hz => ?_⟩
    · rcases h1 with h1 | h1
      · rcases Int.le_total x y with h | h
        · rw [Int.min_eq_left h] at h1 ⊢
          exact .inl h1
        · rw [Int.min_eq_right h] at h1 ⊢
          exact .inr (by rw [h1]; exact List.mem_cons_self)
      · exact .inr (List.mem_cons_of_mem _ h1)
    · rcases List.mem_cons.mp hz with rfl | hz
      · omega
      · exact h3 z hz
theorem maxI_spec {ns : List Int} {m : Int} (h : maxI ns = some m) : m ∈ ns ∧ ∀ y ∈ ns, y ≤ m := by
  cases ns with
  | nil => cases h
  | cons x r =>
    have h : r.foldl max x = m := Option.some.inj h
    obtain ⟨h1, h2, h3⟩ := foldl_max r x
    rw [h] at h1 h2 h3
    refine ⟨?_, fun y hy => ?_⟩
    · rcases h1 with h1 | h1
      · rw [h1]
        exact List.mem_cons_self
      · exact List.mem_cons_of_mem _ h1
    · rcases List.mem_cons.mp hy with rfl | hy
      · exact h2
      · exact h3 y hy
theorem minI_spec {ns : List Int} {m : Int} (h : minI ns = some m) : m ∈ ns ∧ ∀ y ∈ ns, m ≤ y := by
  cases ns with
  | nil => cases h
  | cons x r =>
    have h : r.foldl min x = m := Option.some.inj h
    obtain ⟨h1, h2, h3⟩ := foldl_min r x
    rw [h] at h1 h2 h3
    refine ⟨?_, fun y hy => ?_⟩
    · rcases h1 with h1 | h1
      · rw [h1]
        exact List.mem_cons_self
      · exact List.mem_cons_of_mem _ h1
    · rcases List.mem_cons.mp hy with rfl | hy
      · exact h2
      · exact h3 y hy
def oMaxL : List D → Option D
  | [d] => (((seqOf d).bind intsOf).bind maxI).map D.int
  | _ => none
def oMinL : List D → Option D
  | [d] => (((seqOf d).bind intsOf).bind minI).map D.int
  | _ => none
theorem r_maxL : ResC K cl (rMax K) oMaxL := by
  intro ds z hz H G vs Q s hv q
  unfold oMaxL at hz
  split at hz
  · obtain ⟨m, e1, rfl⟩ := map_some2 hz
    obtain ⟨ns, e1, e2⟩ := bind_some2 e1
    obtain ⟨v, rfl, h1⟩ := obsl1 hv
    obtain ⟨a, rfl, h2⟩ := seqInts s h1 e1
    obtain ⟨m1, m2⟩ := maxI_spec e2
    refine ⟨a, ns, rfl, h2, List.length_pos_of_mem m1, fun m' k1 k2 => ?_⟩
    have e : m' = m := Int.le_antisymm (m2 _ k1) (k2 _ m1)
    rw [e]
    exact q _ H G (Grow.refl s) mk_int
  · cases hz
theorem r_minL : ResC K cl (rMin K) oMinL := by
  intro ds z hz H G vs Q s hv q
  unfold oMinL at hz
  split at hz
  · obtain ⟨m, e1, rfl⟩ := map_some2 hz
    obtain ⟨ns, e1, e2⟩ := bind_some2 e1
    obtain ⟨v, rfl, h1⟩ := obsl1 hv
    obtain ⟨a, rfl, h2⟩ := seqInts s h1 e1
    obtain ⟨m1, m2⟩ := minI_spec e2
    refine ⟨a, ns, rfl, h2, List.length_pos_of_mem m1, fun m' k1 k2 => ?_⟩
    have e : m' = m := Int.le_antisymm (k2 _ m1) (m2 _ k1)
    rw [e]
    exact q _ H G (Grow.refl s) mk_int
  · cases hz
def blsOf : List D → Option (List Bool)
  | [] => some []
  | .bl i :: r => (blsOf r).map fun l => i :: l
  | _ :: _ => none
theorem blsOf_map : ∀ ns : List Bool, blsOf (ns.map D.bl) = some ns
  | [] => rfl
  | n :: r => by
    rw [List.map_cons, blsOf, blsOf_map r]
    rfl
theorem blsOf_some : ∀ {ds : List D} {ns : List Bool}, blsOf ds = some ns → ds = ns.map D.bl
  | [], ns, h => by
    cases h
    rfl
  | d :: r, ns, h => by
    cases d with
    | bl i =>
      rw [blsOf] at h
      cases e : blsOf r with
      | none =>
        rw [e] at h
        cases h
      | some l =>
        rw [e] at h
        cases h
        rw [blsOf_some e]
        rfl
    | _ => cases h
theorem dens_bls {H : Hp} : ∀ {ns : List Bool} {vs : List V}, Dens K cl H (ns.map D.bl) vs → vs = ns.map V.bl
  | [], _, h => by simpa only [List.map_nil, Dens] using h
  | n :: r, _, h => by
    simp only [List.map_cons, Dens] at h
    obtain ⟨v, l, rfl, h1, h2⟩ := h
    rw [den_bl h1, dens_bls h2]
    rfl
def oAny : List D → Option D
  | [d] => ((seqOf d).bind blsOf).map fun ns => .bl (ns.any fun b => b)
  | _ => none
def oAll : List D → Option D
  | [d] => ((seqOf d).bind blsOf).map fun ns => .bl (ns.all fun b => b)
  | _ => none
theorem seqBls {G H : Hp} (s : Same G H) {d : D} {ns : List Bool} {v : V} (h : Obs K cl G H d v) (e : (seqOf d).bind blsOf = some ns) : ∃ a, v = .ref a ∧ SqL K H a (ns.map V.bl) := by
  obtain ⟨ds, e1, e2⟩ := bind_some2 e
  obtain ⟨a, vs, rfl, h1, h2⟩ := seq_ok s h e1
  rw [blsOf_some e2] at h2
  exact ⟨a, rfl, by rw [← dens_bls h2]; exact h1⟩
theorem r_any : ResC K cl (rAny K) oAny := by
  intro ds z hz H G vs Q s hv q
  unfold oAny at hz
  split at hz
  · obtain ⟨ns, e1, rfl⟩ := map_some2 hz
    obtain ⟨v, rfl, h1⟩ := obsl1 hv
    obtain ⟨a, rfl, h2⟩ := seqBls s h1 e1
    exact ⟨a, ns, rfl, h2, q _ H G (Grow.refl s) mk_bl⟩
  · cases hz
theorem r_all : ResC K cl (rAll K) oAll := by
  intro ds z hz H G vs Q s hv q
  unfold oAll at hz
  split at hz
  · obtain ⟨ns, e1, rfl⟩ := map_some2 hz
    obtain ⟨v, rfl, h1⟩ := obsl1 hv
    obtain ⟨a, rfl, h2⟩ := seqBls s h1 e1
    exact ⟨a, ns, rfl, h2, q _ H G (Grow.refl s) mk_bl⟩
  · cases hz
def oList : List D → Option (List D)
  | [d] => itemsOf d
  | _ => none
theorem r_list : ResCF K cl (fun xs H Q => ∃ p ys, xs = [.ref p] ∧ (SqL K H p ys ∨ SqT K H p ys) ∧ ∀ l, H l = none → Q (.ref l) (upd H l (.lst ys))) oList := by
  intro ds z hz H G vs Q s hv q
  unfold oList at hz
  split at hz
  · obtain ⟨v, rfl, h1⟩ := obsl1 hv
    obtain ⟨p, us, rfl, h2, h3⟩ := items_ok s h1 hz
    exact ⟨p, us, rfl, h2, fun l hl => new_lst s hl h3 q⟩
  · cases hz
def oTuple : List D → Option D
  | [d] => (itemsOf d).map D.tup
  | _ => none
theorem r_tuple : ResC K cl (fun xs H Q => ∃ p ys, xs = [.ref p] ∧ ((SqL K H p ys ∧ ∀ l, H l = none → Q (.ref l) (upd H l (.tup ys))) ∨ (SqT K H p ys ∧ Q (.ref p) H))) oTuple := by
  intro ds z hz H G vs Q s hv q
  unfold oTuple at hz
  split at hz
  · rename_i d
    obtain ⟨es, e1, rfl⟩ := map_some2 hz
    obtain ⟨v, rfl, h1⟩ := obsl1 hv
    cases d with
    | lst _ =>
      cases e1
      obtain ⟨a, us, rfl, h2, h3⟩ := obs_lst h1
      exact ⟨a, us, rfl, .inl ⟨.inl (.inl h2), fun l hl => new_tup s hl h3 q⟩⟩
    | fl _ =>
      cases e1
      obtain ⟨a, us, rfl, h2, h3⟩ := obs_fl h1
      exact ⟨a, us, rfl, .inl ⟨s.seq h2, fun l hl => new_tup s hl h3 q⟩⟩
    | tup _ =>
      cases e1
      obtain ⟨a, us, rfl, h2, h3⟩ := obs_tup h1
      exact ⟨a, us, rfl, .inr ⟨same_seqT s h2.sq, q _ H G (Grow.refl s) (mk_tup h2 h3)⟩⟩
    | _ => cases e1
  · cases hz
/-! ### isinstance of plain data against built-in types -/
def tyName : D → Option String
  | .non => some "NoneType"
  | .bl _ => some "bool"
  | .int _ => some "int"
  | .str _ => some "str"
  | .tup _ => some "tuple"
  | .lst _ => some "list"
  | _ => none
theorem tyX_of {G H : Hp} (s : Same G H) {d : D} {n : String} {v : V} (h : Obs K cl G H d v) (e : tyName d = some n) : TyX K H v (.type n) := by
  cases d with
  | non =>
    cases e
    rw [obs_non h]
    exact .base .non
  | bl b =>
    cases e
    rw [obs_bl h]
    exact .base (.bl b)
  | int b =>
    cases e
    rw [obs_int h]
    exact .base (.int b)
  | str b =>
    cases e
    rw [obs_str h]
    exact .base (.str b)
  | tup ds =>
    cases e
    obtain ⟨a, us, rfl, h2, h3⟩ := obs_tup h
    rcases h2.mono s with z | ⟨o, its, n, z, c, _⟩
    · exact .base (.tup z)
    · exact .kTuple z c
  | lst ds =>
    cases e
    obtain ⟨a, us, rfl, h2, h3⟩ := obs_lst h
    exact .base (.lst h2)
  | _ => cases e
def isTy (a b : String) : Option Bool := if a = b then some true else if a = "bool" ∧ b = "int" then some true else
  if a ∈ ["NoneType", "bool", "int", "str", "tuple", "list"] ∧ b ∈ ["bool", "int", "str", "tuple", "list", "dict"] then some false else none
theorem isTy_ok {a b : String} {r : Bool} (h : isTy a b = some r) : PySem.W.kitOne K (.type a) (.type b) = some r := by
  unfold isTy at h
  split at h
  · rename_i e
    cases h
    subst e
    refine kit_ty ?_
    unfold kitB
    rw [if_pos (beq_self_eq_true _)]
  · rename_i ne
    split at h
    · rename_i e
      cases h
      obtain ⟨rfl, rfl⟩ := e
      exact kit_ty (by decide +kernel)
    · rename_i nb
      split at h
      · rename_i e
        cases h
        obtain ⟨h1, h2⟩ := e
        simp only [List.mem_cons, List.not_mem_nil, or_false] at h1 h2
        rcases h1 with rfl | rfl | rfl | rfl | rfl | rfl <;> rcases h2 with rfl | rfl | rfl | rfl | rfl | rfl <;> first | exact kit_ty (by decide +kernel) | exact absurd rfl ne | exact absurd ⟨rfl, rfl⟩ nb
      · cases h
/-- one of several types -/
def tysOf : List D → Option (List String)
  | [] => some []
  | .ty b :: r => (tysOf r).map fun l => b :: l
  | _ :: _ => none
def isAny (a : String) : List String → Option Bool
  | [] => some false
  | b :: r => match isTy a b with
    | some true => some true
    | some false => isAny a r
    | none => none
theorem dens_tys {H : Hp} : ∀ {ds : List D} {bs : List String} {vs : List V}, tysOf ds = some bs → Dens K cl H ds vs → Paired ClsV vs (bs.map Value.type)
  | [], bs, vs, h, q => by
    simp only [Dens] at q
    cases h
    rw [q]
    exact .nil
  | d :: ds, bs, vs, h, q => by
    simp only [Dens] at q
    obtain ⟨v, l, rfl, q1, q2⟩ := q
    cases d with
    | ty b =>
      rw [tysOf] at h
      obtain ⟨r, e, rfl⟩ := map_some2 h
      rw [den_ty q1]
      exact .cons (.ty b) (dens_tys e q2)
    | _ => cases h
theorem isAny_ok {a : String} : ∀ {bs : List String} {r : Bool}, isAny a bs = some r → PySem.W.kitAny K (.type a) (bs.map Value.type) = some r
  | [], r, h => by
    cases h
    exact kitAny_nil
  | b :: bs, r, h => by
    rw [isAny] at h
    split at h
    · rename_i e
      cases h
      exact kitAny_cons (isTy_ok e) (fun z => nomatch z) (fun _ => rfl)
    · rename_i e
      exact kitAny_cons (isTy_ok e) (fun _ => isAny_ok h) (fun z => nomatch z)
    · cases h
def oIsi : List D → Option D
  | [d, .ty b] => ((tyName d).bind fun a => isTy a b).map D.bl
  | [d, .tup ts] => ((tyName d).bind fun a => (tysOf ts).bind fun bs => isAny a bs).map D.bl
  | _ => none
def rIsiD (K : PySem.W.Frag) : List V → Hp → VK → Prop := fun xs H Q => rIsi K xs H Q ∨ rIsiT K xs H Q ∨ rIsiK K xs H Q
theorem call_isiD : CallR X (.builtin "isinstance") (rIsiD X.K) := call_isi.or (call_isiT.or call_isiK)
theorem r_isi : ResC K cl (rIsiD K) oIsi := by
  intro ds z hz H G vs Q s hv q
  unfold oIsi at hz
  split at hz
  · rename_i d b
    obtain ⟨r, e, rfl⟩ := map_some2 hz
    obtain ⟨a, e1, e2⟩ := bind_some2 e
    obtain ⟨v, u, rfl, h1, h2⟩ := obsl2 hv
    rw [obs_ty h2]
    exact .inl ⟨v, .ty b, _, _, r, rfl, .ty b, tyX_of s h1 e1, isTy_ok e2, q _ H G (Grow.refl s) mk_bl⟩
  · rename_i d ts
    obtain ⟨r, e, rfl⟩ := map_some2 hz
    obtain ⟨a, e1, e2⟩ := bind_some2 e
    obtain ⟨bs, e3, e4⟩ := bind_some2 e2
    obtain ⟨v, u, rfl, h1, h2⟩ := obsl2 hv
    obtain ⟨tp, us, rfl, h3, h4⟩ := obs_tup h2
    rcases h3 with z | ⟨o, its, n, z, c, d', _, vl⟩
    · exact .inr (.inl ⟨v, tp, us, _, _, r, rfl, s _ _ z, dens_tys e3 h4, tyX_of s h1 e1, isAny_ok e4, q _ H G (Grow.refl s) mk_bl⟩)
    · have e5 := ClsV.all (dens_tys e3 h4) vl
      obtain ⟨oc, od, dt, sl⟩ := o
      simp only at c d'
      subst c d'
      refine .inr (.inr ⟨v, tp, od, bs.map Value.type, n, sl, _, r, rfl, ?_, tyX_of s h1 e1, isAny_ok e4, q _ H G (Grow.refl s) mk_bl⟩)
      rw [z, ← e5, Array.toArray_toList]
  · cases hz
end
end Fw

/-! Fw4: statements, loops, comprehensions, defs. -/
namespace Fw
open PySem PySem.Spec PyProof.Rows L2

/-! ### stores -/
theorem getset_ne {α : Type} {l : List α} {i j : Nat} {x : α} (h : j ≠ i) : (l.set i x)[j]? = l[j]? := List.getElem?_set_ne (Ne.symm h)
theorem getset_self {α : Type} {l : List α} {i : Nat} {x y : α} (h : (l.set i x)[i]? = some y) : y = x ∧ i < l.length := by
  by_cases hi : i < l.length
  · rw [List.getElem?_set_self hi] at h
    exact ⟨(Option.some.inj h).symm, hi⟩
  · rw [List.getElem?_eq_none (by simpa using hi)] at h
    cases h
section
variable {K : PySem.W.Frag} {w : Wd} {σ : L2.St} {G G' H H' : Hp} {ρ : Env}
theorem Rep.setSh (r : Rep K w σ H G ρ) {d : D} {v : V} (i : Nat) (h : Den K w.cl G d v) : Rep K w (σ.set i (some v)) H G (ρ.set i (.sh d)) := by
  have hl := r.len
  refine ⟨r.base, by rw [List.length_set, List.length_set, hl], fun j e hj => ?_, fun j ds hj => ?_, fun j c ds hj => ?_, fun j k ds es a h1 h2 h3 h4 => ?_⟩
  · by_cases q : j = i
    · subst q
      obtain ⟨e1, e2⟩ := getset_self hj
      cases e1
      exact ⟨v, List.getElem?_set_self (by omega), h⟩
    · rw [getset_ne q] at hj ⊢
      exact r.sh j e hj
  · by_cases q : j = i
    · subst q
      cases (getset_self hj).1
    · rw [getset_ne q] at hj ⊢
      exact r.own j ds hj
  · by_cases q : j = i
    · subst q
      cases (getset_self hj).1
    · rw [getset_ne q] at hj ⊢
      exact r.slf j c ds hj
  · by_cases q : j = i
    · subst q
      cases (getset_self h1).1
    · by_cases q' : k = i
      · subst q'
        cases (getset_self h2).1
      · rw [getset_ne q] at h1 h3
        rw [getset_ne q'] at h2 h4
        exact r.dis j k ds es a h1 h2 h3 h4
theorem Rep.setOwn (r : Rep K w σ H G ρ) (g : Grow H G H' G') {a : Addr} {ds : Ow} {vs : HO} (i : Nat) (hn : H a = none) (ha : H' a = some vs) (hg : G' a = none) (hd : OwOk K w.cl G' ds vs) (hk : ∀ c zs, ds ≠ .obj c zs) : Rep K w (σ.set i (some (.ref a))) H' G' (ρ.set i (.own ds)) := by
  have r' := r.go g
  have hl := r.len
  have other : ∀ (j : Nat) (es : Ow), ρ[j]? = some (.own es) → σ[j]? ≠ some (some (.ref a)) := fun j es hj e => by
    obtain ⟨b, us, e1, e2, _⟩ := r.own j es hj
    rw [e] at e1
    cases e1
    rw [hn] at e2
    cases e2
  refine ⟨r'.base, by rw [List.length_set, List.length_set, hl], fun j e hj => ?_, fun j es hj => ?_, fun j c es hj => ?_, fun j k es fs b h1 h2 h3 h4 => ?_⟩
  · by_cases q : j = i
    · subst q
      cases (getset_self hj).1
    · rw [getset_ne q] at hj ⊢
      exact r'.sh j e hj
  · by_cases q : j = i
    · subst q
      obtain ⟨e1, e2⟩ := getset_self hj
      cases e1
      exact ⟨a, vs, List.getElem?_set_self (by omega), ha, hg, r.base.ext.free hn, hd⟩
    · rw [getset_ne q] at hj ⊢
      exact r'.own j es hj
  · by_cases q : j = i
    · subst q
      have e1 := (getset_self hj).1
      cases e1
      exact absurd rfl (hk _ _)
    · rw [getset_ne q] at hj ⊢
      exact r'.slf j c es hj
  · by_cases q : j = i
    · by_cases q' : k = i
      · rw [q, q']
      · subst q
        have e3 := (getset_self h3).1
        cases e3
        rw [getset_ne q'] at h2 h4
        exact absurd h4 (other k fs h2)
    · by_cases q' : k = i
      · subst q'
        have e4 := (getset_self h4).1
        cases e4
        rw [getset_ne q] at h1 h3
        exact absurd h3 (other j es h1)
      · rw [getset_ne q] at h1 h3
        rw [getset_ne q'] at h2 h4
        exact r'.dis j k es fs b h1 h2 h3 h4
theorem upd_self {H : Hp} {a : Addr} {o : HO} : upd H a o a = some o := upd_same
/-- an owned list is changed -/
theorem Rep.change (r : Rep K w σ H G ρ) {a : Addr} {ds es : Ow} {us : HO} {i : Nat} (hi : ρ[i]? = some (.own ds)) (hs : σ[i]? = some (some (.ref a))) (hd : OwOk K w.cl G es us) (hk : ∀ c zs, es = .obj c zs → a = w.sf) : Rep K w σ (upd H a us) G (ρ.set i (.own es)) := by
  have hl := r.len
  obtain ⟨b, vs, e1, e2, e3, e4, e5⟩ := r.own i ds hi
  rw [hs] at e1
  cases e1
  have ne : ∀ (c : Addr) (o : HO), G c = some o → c ≠ a := fun c o hc z => by
    rw [z, e3] at hc
    cases hc
  refine ⟨⟨fun c o hc => ?_, r.base.gext, fun c o hc => ?_, r.base.new⟩, by rw [List.length_set, hl], fun j e hj => ?_, fun j fs hj => ?_, fun j c fs hj => ?_, fun j k f1 f2 b h1 h2 h3 h4 => ?_⟩
  · have : c ≠ a := fun z => by
      rw [z, e4] at hc
      cases hc
    rw [upd_ne this]
    exact r.base.ext _ _ hc
  · rw [upd_ne (ne c o hc)]
    exact r.base.sub _ _ hc
  · by_cases q : j = i
    · subst q
      cases (getset_self hj).1
    · rw [getset_ne q] at hj
      exact r.sh j e hj
  · by_cases q : j = i
    · subst q
      have e6 := (getset_self hj).1
      cases e6
      exact ⟨a, us, hs, upd_same, e3, e4, hd⟩
    · rw [getset_ne q] at hj
      obtain ⟨b, vs', k1, k2, k3, k4, k5⟩ := r.own j fs hj
      have : b ≠ a := fun z => by
        subst z
        exact q (r.dis j i fs ds b hj hi k1 hs)
      exact ⟨b, vs', k1, by rw [upd_ne this]; exact k2, k3, k4, k5⟩
  · by_cases q : j = i
    · subst q
      have e6 := (getset_self hj).1
      rw [hs, hk _ _ (Cell.own.inj e6).symm]
    · rw [getset_ne q] at hj
      exact r.slf j c fs hj
  · have get : ∀ (j : Nat) (f : Ow), (ρ.set i (.own es))[j]? = some (.own f) → ∃ f', ρ[j]? = some (.own f') := fun j f hj => by
      by_cases q : j = i
      · exact ⟨ds, by rw [q]; exact hi⟩
      · rw [getset_ne q] at hj
        exact ⟨f, hj⟩
    obtain ⟨f1', h1'⟩ := get j f1 h1
    obtain ⟨f2', h2'⟩ := get k f2 h2
    exact r.dis j k f1' f2' b h1' h2' h3 h4
/-- an owned list becomes stable -/
def frz (i : Nat) (ρ : Env) : Env := match cellAt ρ i with
  | .own o => ρ.set i (.sh o.toD)
  | _ => ρ
theorem Rep.frz (r : Rep K w σ H G ρ) (i : Nat) : ∃ G', Same G G' ∧ Rep K w σ H G' (Fw.frz i ρ) := by
  unfold Fw.frz
  split
  · rename_i ds e
    have hi := cellAt_get e (fun z => nomatch z)
    obtain ⟨a, vs, e1, e2, e3, e4, e5⟩ := r.own i ds hi
    have hs : Same G (upd G a vs) := same_upd e3
    have hl := r.len
    refine ⟨_, hs, ⟨r.base.ext, r.base.gext.trans hs, fun c o hc => ?_, fun c hc => ?_⟩, by rw [List.length_set, hl], fun j d hj => ?_, fun j es hj => ?_, fun j c es hj => ?_, fun j k f1 f2 b h1 h2 h3 h4 => ?_⟩
    · by_cases q : c = a
      · subst q
        rw [upd_same] at hc
        rw [← hc]
        exact e2
      · rw [upd_ne q] at hc
        exact r.base.sub _ _ hc
    · by_cases q : c = a
      · exact .inr (by rw [q]; exact e4)
      · rw [upd_ne q] at hc
        exact r.base.new c hc
    · by_cases q : j = i
      · subst q
        have e6 := (getset_self hj).1
        cases e6
        exact ⟨_, e1, (e5.mono hs).den upd_same⟩
      · rw [getset_ne q] at hj
        obtain ⟨v, k1, k2⟩ := r.sh j d hj
        exact ⟨v, k1, k2.mono hs⟩
    · by_cases q : j = i
      · subst q
        cases (getset_self hj).1
      · rw [getset_ne q] at hj
        obtain ⟨b, vs', k1, k2, k3, k4, k5⟩ := r.own j es hj
        have : b ≠ a := fun z => by
          subst z
          exact q (r.dis j i es ds b hj hi k1 e1)
        exact ⟨b, vs', k1, k2, by rw [upd_ne this]; exact k3, k4, k5.mono hs⟩
    · by_cases q : j = i
      · subst q
        cases (getset_self hj).1
      · rw [getset_ne q] at hj
        exact r.slf j c es hj
    · by_cases q : j = i
      · subst q
        cases (getset_self h1).1
      · by_cases q' : k = i
        · subst q'
          cases (getset_self h2).1
        · rw [getset_ne q] at h1
          rw [getset_ne q'] at h2
          exact r.dis j k f1 f2 b h1 h2 h3 h4
  · exact ⟨G, Same.refl _, r⟩
end

/-! ### statements -/
section
variable {X : Cx} {w : Wd} {e ea eb : Expr} {s : Stmt} {ss : List Stmt} {f g : Ef} {fs : Af} {pos p : Pos} {x : Str} {F F1 F2 : Sf} {t : Tf}
def sNext : Sf := fun ρ => .nx ρ
def sSeq (F1 F2 : Sf) : Sf := fun ρ => match F1 ρ with
  | .nx ρ1 => F2 ρ1
  | .bk ρ1 => .bk ρ1
  | .ct ρ1 => .ct ρ1
  | .rt d => .rt d
  | .rf ds => .rf ds
  | .stuck => .stuck
theorem tS_next {K : PySem.W.Frag} : ∀ Ds σ H, tS K w sNext Ds σ H → tNext Ds σ H := fun Ds σ H ⟨ρ, G, r, q⟩ => q σ H G (Same.refl _) r
theorem vss_nil : VSs w X [] sNext := PSs.imp pss_nil tS_next
theorem vs_pass : VS w X (.Pass pos) sNext := PS.imp ps_pass tS_next
theorem tS_seq {K : PySem.W.Frag} : ∀ Ds σ H, tS K w (sSeq F1 F2) Ds σ H → tSeq (tS K w F1) (tS K w F2) Ds σ H := fun Ds σ H ⟨ρ, G, r, q⟩ => by
  refine ⟨ρ, G, r, ?_⟩
  unfold sSeq at q
  cases e : F1 ρ with
  | nx ρ1 =>
    rw [e] at q
    exact fun σ' H' G' s r' => ⟨ρ1, G', r', post.mono s q⟩
  | bk ρ1 =>
    rw [e] at q
    exact q
  | ct ρ1 =>
    rw [e] at q
    exact q
  | rt d =>
    rw [e] at q
    exact q
  | rf d =>
    rw [e] at q
    exact q
  | stuck =>
    rw [e] at q
    exact q
theorem vss_cons (h1 : VS w X s F1) (h2 : VSs w X ss F2) : VSs w X (s :: ss) (sSeq F1 F2) := PSs.imp (pss_cons h1 h2) tS_seq
theorem vss_one (h1 : VS w X s F1) : VSs w X [s] F1 := pss_one h1
def sFrz (i : Nat) (F : Sf) : Sf := fun ρ => F (frz i ρ)
theorem vs_frz (i : Nat) (h : VS w X s F) : VS w X s (sFrz i F) := PS.imp h fun Ds σ H ⟨ρ, G, r, q⟩ => by
  obtain ⟨G', hs, r'⟩ := r.frz i
  exact ⟨_, G', r', post.mono hs q⟩
def sBreak : Sf := fun ρ => .bk ρ
def sCont : Sf := fun ρ => .ct ρ
theorem vs_break : VS w X (.Break pos) sBreak := PS.imp ps_break fun Ds σ H ⟨ρ, G, r, q⟩ => q σ H G (Same.refl _) r
theorem vs_continue : VS w X (.Continue pos) sCont := PS.imp ps_continue fun Ds σ H ⟨ρ, G, r, q⟩ => q σ H G (Same.refl _) r
def sStuck : Sf := fun _ => .stuck
theorem vs_never : VS w X s sStuck := PS.imp ps_never fun Ds σ H ⟨ρ, G, r, q⟩ => q
def sSet (i : Nat) (f : Ef) : Sf := fun ρ => match f ρ with
  | some d => .nx (ρ.set i (.sh d))
  | none => .stuck
theorem vs_set {i : Nat} {pos' : Pos} (hN : X.N.Nodup) (hi : X.N[i]? = some x) (hx : Loc X.env.scope x) (he : VE w X e f) (hs : swapsWith e (some (.Name x pos')) pos.line X.env = pure false := by rfl) (hf : X.fn x = true ∨ X.env.scope.names.lookup x = some .local := by first | exact .inl rfl | exact .inr rfl | assumption) :
    VS w X (.Assign [.Name x pos'] e pos) (sSet i f) := PS.imp (ps_set hN hi hx he hs hf) fun Ds σ H ⟨ρ, G, r, q⟩ => by
  unfold sSet at q
  cases e1 : f ρ with
  | none =>
    rw [e1] at q
    exact q.elim
  | some d =>
    rw [e1] at q
    exact seqE r e1 fun v H1 G1 g1 r1 z1 => q _ H1 G1 g1.gg (r1.setSh i z1)
def sSetF (i : Nat) (f : Af) : Sf := fun ρ => match f ρ with
  | some ds => .nx (ρ.set i (.own (.lst ds)))
  | none => .stuck
theorem vs_setF {i : Nat} {pos' : Pos} (hN : X.N.Nodup) (hi : X.N[i]? = some x) (hx : Loc X.env.scope x) (he : VF w X e fs) (hs : swapsWith e (some (.Name x pos')) pos.line X.env = pure false := by rfl) (hf : X.fn x = true ∨ X.env.scope.names.lookup x = some .local := by first | exact .inl rfl | exact .inr rfl | assumption) :
    VS w X (.Assign [.Name x pos'] e pos) (sSetF i fs) := PS.imp (ps_set hN hi hx he hs hf) fun Ds σ H ⟨ρ, G, r, q⟩ => by
  unfold sSetF at q
  cases e1 : fs ρ with
  | none =>
    rw [e1] at q
    exact q.elim
  | some ds =>
    rw [e1] at q
    exact ⟨ρ, G, ds, r, e1, fun a vs H1 G1 g1 h0 h1 h2 h3 => q _ H1 G1 g1.gg (r.setOwn g1 i h0 h1 h2 ⟨vs, rfl, h3⟩ fun _ _ z => nomatch z)⟩
def sSetN (i : Nat) (f : Env → Option Ow) : Sf := fun ρ => match f ρ with
  | some (.lst ds) => .nx (ρ.set i (.own (.lst ds)))
  | some (.dic ks ds) => .nx (ρ.set i (.own (.dic ks ds)))
  | _ => .stuck
theorem vs_setN {i : Nat} {pos' : Pos} {fn : Env → Option Ow} (hN : X.N.Nodup) (hi : X.N[i]? = some x) (hx : Loc X.env.scope x) (he : VN w X e fn) (hs : swapsWith e (some (.Name x pos')) pos.line X.env = pure false := by rfl) (hf : X.fn x = true ∨ X.env.scope.names.lookup x = some .local := by first | exact .inl rfl | exact .inr rfl | assumption) :
    VS w X (.Assign [.Name x pos'] e pos) (sSetN i fn) := PS.imp (ps_set hN hi hx he hs hf) fun Ds σ H ⟨ρ, G, r, q⟩ => by
  unfold sSetN at q
  split at q
  · rename_i ds e1
    exact ⟨ρ, G, _, r, e1, fun a vs H1 G1 g1 h0 h1 h2 h3 => q _ H1 G1 g1.gg (r.setOwn g1 i h0 h1 h2 h3 fun _ _ z => nomatch z)⟩
  · rename_i ks ds e1
    exact ⟨ρ, G, _, r, e1, fun a vs H1 G1 g1 h0 h1 h2 h3 => q _ H1 G1 g1.gg (r.setOwn g1 i h0 h1 h2 h3 fun _ _ z => nomatch z)⟩
  · exact q.elim
def sRetO (f : Env → Option Ow) : Sf := fun ρ => match f ρ with
  | some o => .rf o
  | none => .stuck
theorem vs_retO {fn : Env → Option Ow} (he : VN w X e fn) : VS w X (.Return (some e) pos) (sRetO fn) := PS.imp (ps_ret he) fun Ds σ H ⟨ρ, G, r, q⟩ => by
  unfold sRetO at q
  cases e1 : fn ρ with
  | none =>
    rw [e1] at q
    exact q.elim
  | some ds =>
    rw [e1] at q
    exact ⟨ρ, G, ds, r, e1, fun a vs H1 G1 g1 h0 h1 h2 h3 => q a vs H1 G1 (r.base.go g1) (r.base.ext.free h0) h1 h2 h3⟩
def sDrop (f : Ef) : Sf := fun ρ => match f ρ with
  | some _ => .nx ρ
  | none => .stuck
theorem vs_expr (he : VE w X e f) (hs : swapsWith e none pos.line X.env = pure false := by rfl) : VS w X (.Expr e pos) (sDrop f) := PS.imp (ps_expr he hs) fun Ds σ H ⟨ρ, G, r, q⟩ => by
  unfold sDrop at q
  cases e1 : f ρ with
  | none =>
    rw [e1] at q
    exact q.elim
  | some d =>
    rw [e1] at q
    exact seqE r e1 fun v H1 G1 g1 r1 z1 => q _ H1 G1 g1.gg r1
def sRet (f : Ef) : Sf := fun ρ => match f ρ with
  | some d => .rt d
  | none => .stuck
theorem vs_ret (he : VE w X e f) : VS w X (.Return (some e) pos) (sRet f) := PS.imp (ps_ret he) fun Ds σ H ⟨ρ, G, r, q⟩ => by
  unfold sRet at q
  cases e1 : f ρ with
  | none =>
    rw [e1] at q
    exact q.elim
  | some d =>
    rw [e1] at q
    exact seqE r e1 fun v H1 G1 g1 r1 z1 => q v H1 G1 r1.base z1
def sRetF (f : Af) : Sf := fun ρ => match f ρ with
  | some ds => .rf (.lst ds)
  | none => .stuck
theorem vs_retF (he : VF w X e fs) : VS w X (.Return (some e) pos) (sRetF fs) := PS.imp (ps_ret he) fun Ds σ H ⟨ρ, G, r, q⟩ => by
  unfold sRetF at q
  cases e1 : fs ρ with
  | none =>
    rw [e1] at q
    exact q.elim
  | some ds =>
    rw [e1] at q
    exact ⟨ρ, G, ds, r, e1, fun a vs H1 G1 g1 h0 h1 h2 h3 => q a (.lst vs) H1 G1 (r.base.go g1) (r.base.ext.free h0) h1 h2 ⟨vs, rfl, h3⟩⟩
/-- return of a name that may hold a list of its own -/
def sRetV (i : Nat) : Sf := fun ρ => match cellAt ρ i with
  | .own o => .rf o
  | .sh d => .rt d
  | .no => .stuck
theorem vs_retV {i : Nat} (h : PE X e (tVar i)) : VS w X (.Return (some e) pos) (sRetV i) := PS.imp (ps_ret h) fun Ds σ H ⟨ρ, G, r, q⟩ => by
  unfold sRetV at q
  cases e1 : cellAt ρ i with
  | no =>
    rw [e1] at q
    exact q.elim
  | sh d =>
    rw [e1] at q
    obtain ⟨v, k1, k2⟩ := r.sh i d (cellAt_get e1 (fun z => nomatch z))
    exact ⟨v, k1, q v H G r.base k2⟩
  | own ds =>
    rw [e1] at q
    obtain ⟨a, vs, k1, k2, k3, k4, k5⟩ := r.own i ds (cellAt_get e1 (fun z => nomatch z))
    exact ⟨_, k1, q a vs H G r.base k4 k2 k3 k5⟩
def sRetN : Sf := fun _ => .rt .non
theorem vs_retN : VS w X (.Return none pos) sRetN := PS.imp ps_retN fun Ds σ H ⟨ρ, G, r, q⟩ => q _ H G r.base mk_non
def sIf (t : Tf) (F1 F2 : Sf) : Sf := fun ρ => match t ρ with
  | some true => F1 ρ
  | some false => F2 ρ
  | none => .stuck
theorem vs_if {c : Expr} {a b : List Stmt} (hc : VT w X c t) (ha : VSs w X a F1) (hb : VSs w X b F2) : VS w X (.If c a b pos) (sIf t F1 F2) := PS.imp (ps_if hc ha hb) fun Ds σ H ⟨ρ, G, r, q⟩ => by
  unfold sIf at q
  cases e1 : t ρ with
  | none =>
    rw [e1] at q
    exact q.elim
  | some b =>
    rw [e1] at q
    refine seqT r e1 fun H1 G1 g1 r1 => ?_
    cases b with
    | true => exact iteT ⟨ρ, G1, r1, post.mono g1.gg q⟩
    | false => exact iteF ⟨ρ, G1, r1, post.mono g1.gg q⟩
/-- x += e, on ints -/
def sAugI (o : Int → Int → Int) (i : Nat) (f : Ef) : Sf := fun ρ => match cellAt ρ i, f ρ with
  | .sh (.int a), some (.int b) => .nx (ρ.set i (.sh (.int (o a b))))
  | _, _ => .stuck
theorem vs_augI {i : Nat} {op : Operator} {o : Int → Int → Int} {pos' : Pos} (hN : X.N.Nodup) (hi : X.N[i]? = some x) (hx : Loc X.env.scope x) (he : VE w X e f) (ho : PIp X op (ipI o)) (hf : X.fn x = true ∨ X.env.scope.names.lookup x = some .local := by first | exact .inl rfl | exact .inr rfl | assumption) :
    VS w X (.AugAssign (.Name x pos') op e pos) (sAugI o i f) := PS.imp (ps_aug hN hi hx he ho hf) fun Ds σ H ⟨ρ, G, r, q⟩ => by
  unfold sAugI at q
  split at q
  · rename_i a b e1 e2
    obtain ⟨v, k1, k2⟩ := r.sh i _ (cellAt_get e1 (fun z => nomatch z))
    rw [den_int k2] at k1
    refine ⟨_, k1, seqE r e2 fun u H1 G1 g1 r1 z1 => ⟨a, b, rfl, den_int z1, q _ H1 G1 g1.gg (r1.setSh i mk_int)⟩⟩
  · exact q.elim
/-- x.append(e), x a list of its own -/
def sApp (i : Nat) (f : Ef) : Sf := fun ρ => match cellAt ρ i, f ρ with
  | .own (.lst ds), some d => if ds.length < 16777216 then .nx (ρ.set i (.own (.lst (ds ++ [d])))) else .stuck
  | _, _ => .stuck
theorem vs_app {i : Nat} {o : Expr} {apos cpos : Pos} (ho : PE X o (tVar i)) (he : VE w X e f)
    (hbase : attributeBase o "append" X.env (eval o X.env) = eval o X.env := by rfl)
    (hfew : ((backTo cpos (starEach [e] X.env)).all (fun x => !x.1) && (backToKw cpos (keywordEach [] X.env)).all (fun x => x.1.isSome)
      && decide (([e]).length + ([] : List Keyword).length + (if ([] : List Keyword).isEmpty then 0 else 1) < 30)) = true := by rfl)
    (hline : (apos.endLine == cpos.line) = true := by rfl) (hs : starEach [e] X.env = (false, eval e X.env) :: starEach [] X.env := by rfl) (hplain : (backTo cpos (starEach [] X.env)).any (·.1) = false := by rfl)
    (hsw : swapsWith (.Call (.Attribute o "append" apos) [e] [] cpos) none pos.line X.env = pure false := by rfl) :
    VS w X (.Expr (.Call (.Attribute o "append" apos) [e] [] cpos) pos) (sApp i f) :=
  PS.imp (ps_expr (pe_bm PySem.F.plainAttrs_list PySem.F.slot_list_append PySem.F.type_list_append mt_append ho (pa_cons he pa_nil hs) hbase hfew hline hs hplain) hsw) fun Ds σ H ⟨ρ, G, r, q⟩ => by
    unfold sApp at q
    split at q
    · rename_i ds d e1 e2
      split at q
      · rename_i hl
        have hi := cellAt_get e1 (fun z => nomatch z)
        obtain ⟨a, ho, k1, k2, k3, k4, vs, rfl, k5⟩ := r.own i _ hi
        refine ⟨_, k1, .inl ⟨rfl, vs, .inl (.inl k2)⟩, seqE r e2 fun u H1 G1 g1 r1 z1 => ?_⟩
        refine ⟨a, vs, u, rfl, rfl, g1.hh _ _ k2, line_lt (by rw [k5.length]; exact hl), q _ _ G1 g1.gg ?_⟩
        exact r1.change hi k1 ⟨_, rfl, (k5.mono g1.gg).append (Dens.cons z1 Dens.nil)⟩ fun _ _ z => nomatch z
      · exact q.elim
    · exact q.elim
/-- x[i] = e, x a list of its own -/
def ixN' (n : Nat) (i : Int) : Option Nat := if 0 ≤ i then (if i < n then some i.toNat else none) else if -(n : Int) ≤ i then some (i + n).toNat else none
def sSto (i : Nat) (ix f : Ef) : Sf := fun ρ => match cellAt ρ i, asI (ix ρ), f ρ with
  | .own (.lst ds), some k, some d => match ixN' ds.length k with
    | some j => .nx (ρ.set i (.own (.lst (ds.set j d))))
    | none => .stuck
  | _, _, _ => .stuck
theorem vs_sto {i : Nat} {o ix : Expr} {gi : Ef} {tpos : Pos} (ho : PE X o (tVar i)) (hi : VE w X ix gi) (he : VE w X e f)
    (ha : ∀ v, assign (.Subscript o ix tpos) X.env v = (do
      let ov ← holding [v] (eval o X.env)
      let iv ← holding [v, ov] (eval ix X.env)
      standAt tpos
      holding [v, ov, iv] (setItem ov iv v)
      release [v, ov, iv] []) := by intro _; rfl)
    (hs : swapsWithSole [.Subscript o ix tpos] e pos.line X.env = pure false := by rfl) (hw : swappedStores [.Subscript o ix tpos] e X.env = pure none := by rfl)
    (h1 : (assignEach [.Subscript o ix tpos] X.env).map (·.2) = [assign (.Subscript o ix tpos) X.env] := by rfl) :
    VS w X (.Assign [.Subscript o ix tpos] e pos) (sSto i gi f) :=
  PS.imp (ps_asg he (pg_sub ho hi set_list ha) hs hw h1) fun Ds σ H ⟨ρ, G, r, q⟩ => by
    unfold sSto at q
    split at q
    · rename_i ds k d e1 e2 e3
      split at q
      · rename_i j e4
        have hi := cellAt_get e1 (fun z => nomatch z)
        obtain ⟨a, ho, k1, k2, k3, k4, vs, rfl, k5⟩ := r.own i _ hi
        refine seqE r e3 fun u H1 G1 g1 r1 z1 => ?_
        refine ⟨_, k1, seqE r1 (asI_some e2) fun y H2 G2 g2 r2 z2 => ?_⟩
        refine ⟨a, vs, k, j, rfl, den_int z2, g2.hh _ _ (g1.hh _ _ k2), ?_, q _ _ G2 (g1.trans g2).gg ?_⟩
        · rw [k5.length]
          exact e4
        · exact r2.change hi k1 ⟨_, rfl, (k5.mono (g1.trans g2).gg).set j (z1.mono g2.gg)⟩ fun _ _ z => nomatch z
      · exact q.elim
    · exact q.elim
end

/-! ### targets -/
section
variable {X : Cx} {w : Wd} {pos : Pos} {x : Str}
/-- stores of the items one after another -/
def putL : List Nat → List D → Env → Option Env
  | [], [], ρ => some ρ
  | i :: is, d :: ds, ρ => putL is ds (ρ.set i (.sh d))
  | _, _, _ => none
/-- a target: one name, or several -/
inductive Tg where
  | nm (i : Nat) | tp (is : List Nat)
def Tg.ixs : Tg → List Nat
  | .nm i => [i]
  | .tp is => is
def put : Tg → D → Env → Option Env
  | .nm i, d, ρ => some (ρ.set i (.sh d))
  | .tp is, .tup ds, ρ => putL is ds ρ
  | .tp _, _, _ => none
/-- what has been stored where -/
def setL : List Nat → List V → L2.St → Option L2.St
  | [], [], σ => some σ
  | i :: is, v :: vs, σ => setL is vs (σ.set i (some v))
  | _, _, _ => none
def sets (t : Tg) (K : PySem.W.Frag) (H : Hp) (v : V) (σ : L2.St) (σ' : L2.St) : Prop := match t with
  | .nm i => σ' = σ.set i (some v)
  | .tp is => ∃ a vs, v = .ref a ∧ SqT K H a vs ∧ setL is vs σ = some σ'
abbrev VG (w : Wd) (X : Cx) (tg : Expr) (t : Tg) : Prop := PG X tg (fun v σ H Q => ∃ σ', sets t X.K H v σ σ' ∧ Q σ' H)
theorem PG.imp {tg : Expr} {t t' : TG} (h : PG X tg t) (hi : ∀ v σ H Q, t' v σ H Q → t v σ H Q) : PG X tg t' := ⟨fun pins s σ H v u Q I r q => h.run pins s σ H v u Q I r (hi _ _ _ _ q)⟩
theorem vg_nm {i : Nat} (hN : X.N.Nodup) (hi : X.N[i]? = some x) (hx : Loc X.env.scope x) (hf : X.fn x = true ∨ X.env.scope.names.lookup x = some .local := by first | exact .inl rfl | exact .inr rfl | assumption) : VG w X (.Name x pos) (.nm i) :=
  PG.imp (pg_name hN hi hx hf) fun v σ H Q ⟨σ', e, q⟩ => by
    have e : σ' = σ.set i (some v) := e
    subst e
    exact q
abbrev VGs (w : Wd) (X : Cx) (ts : List Expr) (is : List Nat) : Prop := PGs X ts (fun vs σ H Q => ∃ σ', setL is vs σ = some σ' ∧ Q σ' H)
theorem PGs.imp {ts : List Expr} {t t' : TGs} (h : PGs X ts t) (hi : ∀ v σ H Q, t' v σ H Q → t v σ H Q) : PGs X ts t' := ⟨fun pins s σ H v u Q I r q => h.run pins s σ H v u Q I r (hi _ _ _ _ q)⟩
theorem vgs_nil : VGs w X [] [] := PGs.imp pgs_nil fun vs σ H Q ⟨σ', e, q⟩ => by
  cases vs with
  | nil =>
    cases e
    exact ⟨rfl, q⟩
  | cons v r => cases e
theorem vgs_cons {e : Expr} {es : List Expr} {i : Nat} {is : List Nat} (h1 : VG w X e (.nm i)) (h2 : VGs w X es is)
    (hs : (assignEach (e :: es) X.env).map (·.2) = assign e X.env :: (assignEach es X.env).map (·.2) := by rfl) : VGs w X (e :: es) (i :: is) := PGs.imp (pgs_cons h1 h2 hs) fun vs σ H Q ⟨σ', e, q⟩ => by
  cases vs with
  | nil => cases e
  | cons v r => exact ⟨v, r, rfl, _, rfl, σ', e, q⟩
theorem setL_len : ∀ {is : List Nat} {vs : List V} {σ σ' : L2.St}, setL is vs σ = some σ' → vs.length = is.length
  | [], [], _, _, _ => rfl
  | i :: is, v :: vs, _, _, h => by rw [List.length_cons, List.length_cons, setL_len (is := is) h]
  | [], _ :: _, _, _, h => by cases h
  | _ :: _, [], _, _, h => by cases h
theorem vg_tp {es : List Expr} {k n : Nat} {is : List Nat} (hc : X.calm = true) (h : VGs w X es is) (hl : is.length = n) (hn : (assignEach es X.env).length = n := by rfl) (hst : (assignEach es X.env).findIdx? (·.1) = none := by rfl) : VG w X (.Tuple es k pos) (.tp is) :=
  PG.imp (pg_tup hc h hn hst) fun v σ H Q ⟨σ', ⟨a, vs, e1, e2, e3⟩, q⟩ => ⟨a, vs, e1, e2, by rw [setL_len e3, hl], σ', e3, q⟩
theorem put_len : ∀ {is : List Nat} {ds : List D} {ρ ρ' : Env}, putL is ds ρ = some ρ' → ds.length = is.length
  | [], [], _, _, _ => rfl
  | i :: is, v :: vs, _, _, h => by rw [List.length_cons, List.length_cons, put_len (is := is) h]
  | [], _ :: _, _, _, h => by cases h
  | _ :: _, [], _, _, h => by cases h
theorem putL_ok {K : PySem.W.Frag} {H G : Hp} : ∀ {is : List Nat} {ds : List D} {vs : List V} {ρ ρ' : Env} {σ : L2.St}, Rep K w σ H G ρ → putL is ds ρ = some ρ' → Dens K w.cl G ds vs → ∃ σ', setL is vs σ = some σ' ∧ Rep K w σ' H G ρ'
  | [], [], vs, ρ, ρ', σ, r, h, q => by
    simp only [Dens] at q
    cases h
    rw [q]
    exact ⟨σ, rfl, r⟩
  | i :: is, d :: ds, vs, ρ, ρ', σ, r, h, q => by
    simp only [Dens] at q
    obtain ⟨v, l, rfl, q1, q2⟩ := q
    exact putL_ok (is := is) (r.setSh i q1) h q2
  | [], _ :: _, _, _, _, _, _, h, _ => by cases h
  | _ :: _, [], _, _, _, _, _, h, _ => by cases h
theorem put_ok {K : PySem.W.Frag} {H G : Hp} {t : Tg} {d : D} {v : V} {ρ ρ' : Env} {σ : L2.St} (r : Rep K w σ H G ρ) (h : put t d ρ = some ρ') (q : Den K w.cl G d v) : ∃ σ', sets t K H v σ σ' ∧ Rep K w σ' H G ρ' := by
  cases t with
  | nm i =>
    cases h
    exact ⟨_, rfl, r.setSh i q⟩
  | tp is =>
    cases d with
    | tup ds =>
      obtain ⟨a, vs, rfl, q1, q2⟩ := den_tup q
      obtain ⟨σ', e, r'⟩ := putL_ok (is := is) r h q2
      exact ⟨σ', ⟨a, vs, rfl, same_seqT r.base.sub q1.sq, e⟩, r'⟩
    | _ => cases h
/-- a, b = e -/
def sUnp (t : Tg) (f : Ef) : Sf := fun ρ => match (f ρ).bind fun d => put t d ρ with
  | some ρ' => .nx ρ'
  | none => .stuck
theorem vs_unp {tg e : Expr} {f : Ef} {t : Tg} (he : VE w X e f) (hg : VG w X tg t) (hs : swapsWithSole [tg] e pos.line X.env = pure false := by rfl) (hw : swappedStores [tg] e X.env = pure none := by rfl)
    (h1 : (assignEach [tg] X.env).map (·.2) = [assign tg X.env] := by rfl) : VS w X (.Assign [tg] e pos) (sUnp t f) :=
  PS.imp (ps_asg he hg hs hw h1) fun Ds σ H ⟨ρ, G, r, q⟩ => by
    unfold sUnp at q
    cases e1 : f ρ with
    | none =>
      rw [e1] at q
      exact q.elim
    | some d =>
      rw [e1, Option.bind_some] at q
      cases e2 : put t d ρ with
      | none =>
        rw [e2] at q
        exact q.elim
      | some ρ' =>
        rw [e2] at q
        refine seqE r e1 fun v H1 G1 g1 r1 z1 => ?_
        obtain ⟨σ', k1, k2⟩ := put_ok r1 e2 z1
        exact ⟨σ', k1, q _ H1 G1 g1.gg k2⟩
end

/-! ### what is walked -/
/-- the walk yields the data ds, whatever new objects come -/
def Walk (cl : Nat → ClsT) (K : PySem.W.Frag) (G : Hp) (J : It) (ds : List D) : Prop := ∀ H2 G2, Same G G2 → Same G2 H2 →
  (∀ (i : Nat) (d : D), ds[i]? = some d → J.go i H2 ∧ ∀ x H3, J.yld i H2 x H3 → ∃ G3, Grow H2 G2 H3 G3 ∧ Den K cl G3 d x) ∧ J.stop ds.length H2
def tI (K : PySem.W.Frag) (w : Wd) (f : Af) : TI := fun σ H R => ∃ ρ G ds, Rep K w σ H G ρ ∧ f ρ = some ds ∧ ∀ J H' G', Grow H G H' G' → Walk w.cl K G' J ds → R J H'
abbrev VI (w : Wd) (X : Cx) (tg iter : Expr) (f : Af) : Prop := PI X tg iter (tI X.K w f)
section
variable {X : Cx} {w : Wd} {tg e : Expr} {f : Ef} {fs : Af} {pos p : Pos} {K : PySem.W.Frag} {cl : Nat → ClsT}
theorem PI.imp {t t' : TI} (h : PI X tg e t) (hi : ∀ σ H Q, t' σ H Q → t σ H Q) : PI X tg e t' := ⟨fun pins s σ H Q I q => h.run pins s σ H Q I (hi _ _ _ q)⟩
theorem walk_list {G : Hp} {a : Addr} {vs : List V} {ds : List D} (h : SqL K G a vs) (q : Dens K cl G ds vs) : Walk cl K G (Itl K a) ds := fun H2 G2 s1 s2 => by
  have h2 : SqL K H2 a vs := s2.seq (s1.seq h)
  refine ⟨fun i d e => ?_, vs, h2, Nat.le_of_eq q.length⟩
  obtain ⟨v, e1, e2⟩ := q.get' e
  refine ⟨⟨vs, v, h2, e1⟩, fun x H3 ⟨e3, y⟩ => ?_⟩
  have := y vs h2
  rw [e1] at this
  cases this
  subst e3
  exact ⟨G2, Grow.refl s2, e2.mono s1⟩
theorem walk_tup {G : Hp} {a : Addr} {vs : List V} {ds : List D} (h : SqT K G a vs) (q : Dens K cl G ds vs) : Walk cl K G (Itt K a) ds := fun H2 G2 s1 s2 => by
  have h2 : SqT K H2 a vs := same_seqT s2 (same_seqT s1 h)
  refine ⟨fun i d e => ?_, vs, h2, Nat.le_of_eq q.length⟩
  obtain ⟨v, e1, e2⟩ := q.get' e
  refine ⟨⟨vs, v, h2, e1⟩, fun x H3 ⟨e3, y⟩ => ?_⟩
  have := y vs h2
  rw [e1] at this
  cases this
  subst e3
  exact ⟨G2, Grow.refl s2, e2.mono s1⟩
def aSeq (f : Ef) : Af := fun ρ => (f ρ).bind seqOf
theorem vi_list (h : VE w X e f) : VI w X tg e (aSeq f) := PI.imp (pi_list h) fun σ H R ⟨ρ, G, ds, r, hf, q⟩ => by
  obtain ⟨d, e1, e2⟩ := bind_some2 hf
  refine seqE r e1 fun v H1 G1 g1 r1 z1 => ?_
  cases d with
  | lst es =>
    cases e2
    obtain ⟨a, vs, rfl, h1, h2⟩ := den_lst z1
    exact ⟨a, rfl, ⟨vs, g1.sub.seq (.inl (.inl h1))⟩, q _ H1 G1 g1 (walk_list (.inl (.inl h1)) h2)⟩
  | fl es =>
    cases e2
    obtain ⟨a, vs, rfl, h1, h2⟩ := den_fl z1
    exact ⟨a, rfl, ⟨vs, g1.sub.seq h1⟩, q _ H1 G1 g1 (walk_list h1 h2)⟩
  | _ => cases e2
def aTup (f : Ef) : Af := fun ρ => match f ρ with
  | some (.tup ds) => some ds
  | _ => none
theorem vi_tup (h : VE w X e f) : VI w X tg e (aTup f) := PI.imp (pi_tup h) fun σ H R ⟨ρ, G, ds, r, hf, q⟩ => by
  unfold aTup at hf
  split at hf
  · rename_i es e1
    cases hf
    refine seqE r e1 fun v H1 G1 g1 r1 z1 => ?_
    obtain ⟨a, vs, rfl, h1, h2⟩ := den_tup z1
    exact ⟨a, rfl, ⟨vs, same_seqT g1.sub h1.sq⟩, q _ H1 G1 g1 (walk_tup h1.sq h2)⟩
  · cases hf
theorem PI.or {t t' : TI} (h : PI X tg e t) (h' : PI X tg e t') : PI X tg e (fun σ H R => t σ H R ∨ t' σ H R) := ⟨fun pins s σ H R I q => q.elim (h.run pins s σ H R I) (h'.run pins s σ H R I)⟩
/-- a list or a tuple -/
def aItems (f : Ef) : Af := fun ρ => (f ρ).bind itemsOf
theorem vi_items (h : VE w X e f) : VI w X tg e (aItems f) := PI.imp (PI.or (vi_list (w := w) h) (vi_tup h)) fun σ H R ⟨ρ, G, ds, r, hf, q⟩ => by
  obtain ⟨d, e1, e2⟩ := bind_some2 hf
  cases d with
  | lst es => exact .inl ⟨ρ, G, ds, r, by unfold aSeq; rw [e1]; exact e2, q⟩
  | fl es => exact .inl ⟨ρ, G, ds, r, by unfold aSeq; rw [e1]; exact e2, q⟩
  | tup es => exact .inr ⟨ρ, G, ds, r, by unfold aTup; rw [e1]; exact e2, q⟩
  | _ => cases e2
theorem walk_range {G : Hp} {lo : Int} {n : Nat} : Walk cl K G (Itr lo n) ((List.range n).map fun i => .int (lo + (i : Nat))) := fun H2 G2 s1 s2 => by
  refine ⟨fun i d e => ?_, ?_⟩
  · rw [List.getElem?_map] at e
    cases e1 : (List.range n)[i]? with
    | none =>
      rw [e1] at e
      cases e
    | some j =>
      rw [e1] at e
      have hi := (List.getElem?_eq_some_iff.mp e1).1
      rw [List.length_range] at hi
      have ej : j = i := by
        have := List.getElem?_eq_some_iff.mp e1
        obtain ⟨_, q⟩ := this
        rw [List.getElem_range] at q
        exact q.symm
      cases e
      refine ⟨hi, fun x H3 ⟨e3, y⟩ => ?_⟩
      subst e3
      rw [y, ej]
      exact ⟨G2, Grow.refl s2, mk_int⟩
  · rw [List.length_map, List.length_range]
    exact Nat.le_refl n
def rangeD (lo : Int) (n : Nat) : List D := (List.range n).map fun i => .int (lo + (i : Nat))
def aRng1 (fs : Af) : Af := fun ρ => match fs ρ with
  | some [.int j] => if j < 4611686018427387904 ∧ -4611686018427387904 ≤ j then some (rangeD 0 j.toNat) else none
  | _ => none
def aRng2 (fs : Af) : Af := fun ρ => match fs ρ with
  | some [.int i, .int j] => if (j < 4611686018427387904 ∧ -4611686018427387904 ≤ j) ∧ i < 4611686018427387904 ∧ -4611686018427387904 ≤ i then some (rangeD i (j - i).toNat) else none
  | _ => none
theorem vi_range1 {a : Expr} (hg : Gl X "range") (hm : X.mg "range" = none) (ha : VAo w X [a] fs) (hs : starEach [a] X.env = [(false, eval a X.env)] := by rfl) : VI w X tg (.Call (.Name "range" p) [a] [] pos) (aRng1 fs) :=
  PI.imp (pi_range1 hg hm ha hs) fun σ H R ⟨ρ, G, ds, r, hf, q⟩ => by
    unfold aRng1 at hf
    split at hf
    · rename_i j e1
      split at hf
      · rename_i hj
        cases hf
        refine ⟨ρ, G, _, r, e1, fun vs H1 G1 g1 z1 => ?_⟩
        obtain ⟨v, rfl, h1⟩ := obsl1 z1
        exact ⟨j, by rw [obs_int h1], by omega, by omega, q _ H1 G1 g1 walk_range⟩
      · cases hf
    · cases hf
theorem vi_range2 {a b : Expr} (hg : Gl X "range") (hm : X.mg "range" = none) (ha : VAo w X [a, b] fs) (hs : starEach [a, b] X.env = [(false, eval a X.env), (false, eval b X.env)] := by rfl) (hs2 : starEach [b] X.env = [(false, eval b X.env)] := by rfl) : VI w X tg (.Call (.Name "range" p) [a, b] [] pos) (aRng2 fs) :=
  PI.imp (pi_range2 hg hm ha hs hs2) fun σ H R ⟨ρ, G, ds, r, hf, q⟩ => by
    unfold aRng2 at hf
    split at hf
    · rename_i i j e1
      split at hf
      · rename_i hj
        cases hf
        refine ⟨ρ, G, _, r, e1, fun vs H1 G1 g1 z1 => ?_⟩
        obtain ⟨v, u, rfl, h1, h2⟩ := obsl2 z1
        exact ⟨i, j, by rw [obs_int h1, obs_int h2], ⟨by omega, by omega, by omega, by omega⟩, q _ H1 G1 g1 walk_range⟩
      · cases hf
    · cases hf

/-! ### for, while -/
def loopF (t : Tg) (F : Sf) : List D → Env → Out
  | [], ρ => .nx ρ
  | d :: ds, ρ => match put t d ρ with
    | none => .stuck
    | some ρ1 => match F ρ1 with
      | .nx ρ2 => loopF t F ds ρ2
      | .ct ρ2 => loopF t F ds ρ2
      | .bk ρ2 => .nx ρ2
      | .rt d => .rt d
      | .rf d => .rf d
      | .stuck => .stuck
def sFor (f : Af) (t : Tg) (F : Sf) : Sf := fun ρ => match f ρ with
  | some ds => loopF t F ds ρ
  | none => .stuck
theorem drop_at {α : Type} {l : List α} {i : Nat} (h : i < l.length) : l.drop i = l[i] :: l.drop (i + 1) := List.drop_eq_getElem_cons h
theorem vs_for {iter : Expr} {body : List Stmt} {t : Tg} {F : Sf} (hp : PassesOwn (model X.prog X.w) X.A X.env X.xe) (hc : X.calm = true) (hi : VI w X tg iter fs) (hg : VG w X tg t) (hb : VSs w X body F)
    (hs : ∀ x, foldedSetIterable iter X.env x = pure x := by intro _; rfl) : VS w X (.For tg iter body [] pos) (sFor fs t F) :=
  PS.imp (ps_for hp hc hi hg hb hs) fun Ds σ H ⟨ρ, G, r, q⟩ => by
    unfold sFor at q
    cases e0 : fs ρ with
    | none =>
      rw [e0] at q
      exact q.elim
    | some ds =>
      rw [e0] at q
      refine ⟨ρ, G, ds, r, e0, fun J H1 G1 g1 wk => ?_⟩
      refine ⟨fun i m σ H => m = ds.length - i ∧ i ≤ ds.length ∧ ∃ ρ G2, Rep X.K w σ H G2 ρ ∧ Same G1 G2 ∧ post X.K w G1 Ds (loopF t F (ds.drop i) ρ), ⟨ds.length, rfl, Nat.zero_le _, ρ, G1, r.go g1, Same.refl _, post.mono g1.gg q⟩, ?_⟩
      rintro i m σ2 H2 ⟨rfl, hi, ρ2, G2, r2, s2, q2⟩
      obtain ⟨w1, w2⟩ := wk H2 G2 s2 r2.base.sub
      by_cases hlt : i < ds.length
      · right
        rw [drop_at hlt] at q2
        obtain ⟨hgo, hy⟩ := w1 i ds[i] (List.getElem?_eq_getElem hlt)
        refine ⟨hgo, fun σ' H' => ∃ ρ' G3, Rep X.K w σ' H' G3 ρ' ∧ Same G1 G3 ∧ post X.K w G1 Ds (loopF t F (ds.drop (i + 1)) ρ'), fun σ' H' ⟨ρ', G3, k1, k2, k3⟩ => ⟨ds.length - (i + 1), by omega, rfl, hlt, ρ', G3, k1, k2, k3⟩, fun x H3 y => ?_⟩
        obtain ⟨G3, g3, z3⟩ := hy x H3 y
        have r3 := r2.go g3
        have s3 := s2.trans g3.gg
        rw [loopF] at q2
        cases e1 : put t ds[i] ρ2 with
        | none =>
          rw [e1] at q2
          exact q2.elim
        | some ρ4 =>
          rw [e1] at q2
          obtain ⟨σ4, k1, k2⟩ := put_ok r3 e1 z3
          refine ⟨σ4, k1, ρ4, G3, k2, ?_⟩
          dsimp only at q2
          cases e2 : F ρ4 with
          | nx ρ5 =>
            rw [e2] at q2
            exact fun σ5 H5 G5 s5 r5 => ⟨ρ5, G5, r5, s3.trans s5, q2⟩
          | ct ρ5 =>
            rw [e2] at q2
            exact fun σ5 H5 G5 s5 r5 => ⟨ρ5, G5, r5, s3.trans s5, q2⟩
          | bk ρ5 =>
            rw [e2] at q2
            exact fun σ5 H5 G5 s5 r5 => q2 σ5 H5 G5 (s3.trans s5) r5
          | rt d =>
            rw [e2] at q2
            exact q2
          | rf d =>
            rw [e2] at q2
            exact q2
          | stuck =>
            rw [e2] at q2
            exact q2.elim
      · left
        have e : i = ds.length := by omega
        subst e
        rw [List.drop_length, loopF] at q2
        exact ⟨w2, q2 σ2 H2 G2 s2 r2⟩
def whileF (t : Tf) (F : Sf) : Nat → Env → Out
  | 0, _ => .stuck
  | n + 1, ρ => match t ρ with
    | none => .stuck
    | some false => .nx ρ
    | some true => match F ρ with
      | .nx ρ2 => whileF t F n ρ2
      | .ct ρ2 => whileF t F n ρ2
      | .bk ρ2 => .nx ρ2
      | .rt d => .rt d
      | .rf d => .rf d
      | .stuck => .stuck
theorem vs_while (n : Nat) {c : Expr} {body : List Stmt} {t : Tf} {F : Sf} (hp : PassesOwn (model X.prog X.w) X.A X.env X.xe) (hc : VT w X c t) (hb : VSs w X body F) : VS w X (.While c body [] pos) (whileF t F n) :=
  PS.imp (ps_while hp hc hb) fun Ds σ H ⟨ρ, G, r, q⟩ => by
    refine ⟨fun m σ H => ∃ ρ G2, Rep X.K w σ H G2 ρ ∧ Same G G2 ∧ post X.K w G Ds (whileF t F m ρ), ⟨n, ρ, G, r, Same.refl _, q⟩, ?_⟩
    rintro m σ2 H2 ⟨ρ2, G2, r2, s2, q2⟩
    cases m with
    | zero => exact q2.elim
    | succ m =>
      rw [whileF] at q2
      cases e0 : t ρ2 with
      | none =>
        rw [e0] at q2
        exact q2.elim
      | some b =>
        rw [e0] at q2
        refine seqT r2 e0 fun H3 G3 g3 r3 => ?_
        have s3 := s2.trans g3.gg
        cases b with
        | false => exact iteF (q2 σ2 H3 G3 s3 r3)
        | true =>
          refine iteT ⟨fun σ' H' => ∃ ρ' G4, Rep X.K w σ' H' G4 ρ' ∧ Same G G4 ∧ post X.K w G Ds (whileF t F m ρ'), fun σ' H' k => ⟨m, Nat.lt_succ_self _, k⟩, ρ2, G3, r3, ?_⟩
          dsimp only at q2
          cases e2 : F ρ2 with
          | nx ρ5 =>
            rw [e2] at q2
            exact fun σ5 H5 G5 s5 r5 => ⟨ρ5, G5, r5, s3.trans s5, q2⟩
          | ct ρ5 =>
            rw [e2] at q2
            exact fun σ5 H5 G5 s5 r5 => ⟨ρ5, G5, r5, s3.trans s5, q2⟩
          | bk ρ5 =>
            rw [e2] at q2
            exact fun σ5 H5 G5 s5 r5 => q2 σ5 H5 G5 (s3.trans s5) r5
          | rt d =>
            rw [e2] at q2
            exact q2
          | rf d =>
            rw [e2] at q2
            exact q2
          | stuck =>
            rw [e2] at q2
            exact q2.elim
end
end Fw

/-! Fw5: comprehensions, defs and their calls. -/
namespace Fw
open PySem PySem.Spec PyProof.Rows L2

theorem wipe_get (σ : L2.St) : ∀ (vs : List Nat) (j : Nat), (wipe σ vs)[j]? = if j ∈ vs ∧ j < σ.length then some none else σ[j]?
  | [], j => by
    rw [if_neg (fun h => nomatch h.1)]
    rfl
  | v :: vs, j => by
    show ((wipe σ vs).set v none)[j]? = _
    have ih := wipe_get σ vs j
    have hl := wipe_length σ vs
    by_cases h : j = v
    · subst h
      by_cases hj : j < σ.length
      · rw [List.getElem?_set_self (by omega), if_pos ⟨List.mem_cons_self, hj⟩]
      · rw [List.getElem?_eq_none (by rw [List.length_set]; omega), if_neg (fun z => hj z.2), List.getElem?_eq_none (by omega)]
    · rw [List.getElem?_set_ne (Ne.symm h), ih]
      by_cases hm : j ∈ vs ∧ j < σ.length
      · rw [if_pos hm, if_pos ⟨List.mem_cons_of_mem _ hm.1, hm.2⟩]
      · rw [if_neg hm, if_neg fun z => hm ⟨(List.mem_cons.mp z.1).elim (fun q => absurd q h) id, z.2⟩]
theorem wipe_eq {σ σ' : L2.St} {vs : List Nat} (hl : σ'.length = σ.length) (h : ∀ j, j ∉ vs → σ'[j]? = (wipe σ vs)[j]?) : wipe σ' vs = wipe σ vs := by
  apply List.ext_getElem?
  intro j
  rw [wipe_get, wipe_get, hl]
  by_cases hm : j ∈ vs
  · by_cases hj : j < σ.length
    · rw [if_pos ⟨hm, hj⟩, if_pos ⟨hm, hj⟩]
    · rw [if_neg fun z => hj z.2, if_neg fun z => hj z.2, List.getElem?_eq_none (by omega), List.getElem?_eq_none (by omega)]
  · rw [if_neg fun z => hm z.1, if_neg fun z => hm z.1, h j hm, wipe_get, if_neg fun z => hm z.1]
theorem setL_keep : ∀ {is : List Nat} {vs : List V} {σ σ' : L2.St}, setL is vs σ = some σ' → σ'.length = σ.length ∧ ∀ j, j ∉ is → σ'[j]? = σ[j]?
  | [], [], σ, σ', h => by
    cases h
    exact ⟨rfl, fun _ _ => rfl⟩
  | i :: is, v :: vs, σ, σ', h => by
    obtain ⟨h1, h2⟩ := setL_keep (is := is) (vs := vs) (σ := σ.set i (some v)) h
    refine ⟨by rw [h1, List.length_set], fun j hj => ?_⟩
    rw [List.mem_cons, not_or] at hj
    rw [h2 j hj.2, List.getElem?_set_ne (Ne.symm hj.1)]
  | [], _ :: _, _, _, h => by cases h
  | _ :: _, [], _, _, h => by cases h
theorem sets_wipe {t : Tg} {K : PySem.W.Frag} {H : Hp} {v : V} {σ σ' : L2.St} (h : sets t K H v (wipe σ t.ixs) σ') : wipe σ' t.ixs = wipe σ t.ixs := by
  cases t with
  | nm i =>
    have h : σ' = (wipe σ [i]).set i (some v) := h
    show wipe σ' [i] = wipe σ [i]
    refine wipe_eq (by rw [h, List.length_set, wipe_length]) fun j hj => ?_
    rw [List.mem_singleton] at hj
    rw [h, List.getElem?_set_ne (Ne.symm hj)]
  | tp is =>
    obtain ⟨a, vs, _, _, e⟩ := h
    obtain ⟨h1, h2⟩ := setL_keep e
    exact wipe_eq (by rw [h1, wipe_length]) h2
def wipeR (ρ : Env) : List Nat → Env
  | [] => ρ
  | v :: vs => (wipeR ρ vs).set v .no
section
variable {K : PySem.W.Frag} {w : Wd} {σ : L2.St} {G G' H H' : Hp} {ρ : Env}
theorem Rep.setNo (r : Rep K w σ H G ρ) (i : Nat) (x : Option V) : Rep K w (σ.set i x) H G (ρ.set i .no) := by
  have hl := r.len
  refine ⟨r.base, by rw [List.length_set, List.length_set, hl], fun j e hj => ?_, fun j ds hj => ?_, fun j c ds hj => ?_, fun j k ds es a h1 h2 h3 h4 => ?_⟩
  · by_cases q : j = i
    · subst q
      cases (getset_self hj).1
    · rw [getset_ne q] at hj ⊢
      exact r.sh j e hj
  · by_cases q : j = i
    · subst q
      cases (getset_self hj).1
    · rw [getset_ne q] at hj ⊢
      exact r.own j ds hj
  · by_cases q : j = i
    · subst q
      cases (getset_self hj).1
    · rw [getset_ne q] at hj ⊢
      exact r.slf j c ds hj
  · by_cases q : j = i
    · subst q
      cases (getset_self h1).1
    · by_cases q' : k = i
      · subst q'
        cases (getset_self h2).1
      · rw [getset_ne q] at h1 h3
        rw [getset_ne q'] at h2 h4
        exact r.dis j k ds es a h1 h2 h3 h4
theorem Rep.wipe (r : Rep K w σ H G ρ) : ∀ vs : List Nat, Rep K w (L2.wipe σ vs) H G (wipeR ρ vs)
  | [] => r
  | v :: vs => (Rep.wipe r vs).setNo v none
/-- an object of nobody's is changed -/
theorem Rep.aside (r : Rep K w σ H G ρ) {a : Addr} {o : HO} (hg : G a = none) (h0 : w.H0 a = none) (hn : ∀ (i : Nat) (ds : Ow), ρ[i]? = some (.own ds) → σ[i]? ≠ some (some (.ref a))) : Rep K w σ (upd H a o) G ρ := by
  refine ⟨⟨fun c u hc => ?_, r.base.gext, fun c u hc => ?_, r.base.new⟩, r.len, r.sh, fun j fs hj => ?_, r.slf, r.dis⟩
  · have : c ≠ a := fun z => by
      rw [z, h0] at hc
      cases hc
    rw [upd_ne this]
    exact r.base.ext _ _ hc
  · have : c ≠ a := fun z => by
      rw [z, hg] at hc
      cases hc
    rw [upd_ne this]
    exact r.base.sub _ _ hc
  · obtain ⟨b, vs', k1, k2, k3, k4, k5⟩ := r.own j fs hj
    have : b ≠ a := fun z => by
      subst z
      exact hn j fs hj k1
    exact ⟨b, vs', k1, by rw [upd_ne this]; exact k2, k3, k4, k5⟩
theorem Grow.aside {Hs Gs : Hp} (g : Grow Hs Gs H G) {a : Addr} {o : HO} (h : Hs a = none) (hg : G a = none) : Grow Hs Gs (upd H a o) G := by
  refine ⟨fun c u hc => ?_, g.gg, fun c u hc => ?_, g.new⟩
  · rw [upd_ne (ne_of_none hc h)]
    exact g.hh _ _ hc
  · rw [upd_ne (ne_of_none hc hg)]
    exact g.sub _ _ hc
theorem Grow.still (g : Grow H G H' G') {a : Addr} {o : HO} (h : H a = some o) (hg : G a = none) : G' a = none := by
  cases q : G' a with
  | none => rfl
  | some u =>
    rcases g.new a (by rw [q]; exact fun z => nomatch z) with z | z
    · exact absurd hg z
    · rw [h] at z
      cases z
end

/-! ### list comprehensions -/
def compL (tg : Tg) (t : Tf) (f : Ef) : List D → Env → Option (List D)
  | [], _ => some []
  | d :: ds, ρ => (put tg d ρ).bind fun ρ1 => (t ρ1).bind fun b => if b = true then (f ρ1).bind fun e => (compL tg t f ds ρ).map fun r => e :: r else compL tg t f ds ρ
def aComp (fs : Af) (tg : Tg) (t : Tf) (f : Ef) : Af := fun ρ => (fs ρ).bind fun ds => if ds.length ≤ 16777216 then compL tg t f ds (wipeR ρ tg.ixs) else none
def tYesF : Tf := fun _ => some true
theorem PTs.imp {X : Cx} {ifs : List Expr} {t t' : TT} (h : PTs X ifs t) (hi : ∀ σ H Q, t' σ H Q → t σ H Q) : PTs X ifs t' := ⟨fun pins s σ H Q I q => h.run pins s σ H Q I (hi _ _ _ q)⟩
abbrev VTs (w : Wd) (X : Cx) (ifs : List Expr) (t : Tf) : Prop := PTs X ifs (tT X.K w t)
section
variable {X : Cx} {w : Wd} {e : Expr} {f : Ef} {fs : Af} {t : Tf} {tg : Tg} {pos : Pos} {K : PySem.W.Frag}
theorem vts_nil : VTs w X [] tYesF := PTs.imp pts_nil fun σ H Q ⟨ρ, G, b, r, hf, q⟩ => by
  cases hf
  exact q H G (Grow.refl r.base.sub)
theorem vts_one (h : VT w X e t) : VTs w X [e] t := pts_one h
theorem comp_imp : ∀ σ H Q, tF K w (aComp fs tg t f) σ H Q → tLc (tI K w fs) (fun v σ H Q => ∃ σ', sets tg K H v σ σ' ∧ Q σ' H) (tT K w t) (tP K w f) tg.ixs σ H Q := fun σ H Q ⟨ρ, G, zs, r, hf, q⟩ => by
  obtain ⟨ds, e0, hf⟩ := bind_some2 hf
  split at hf
  case isFalse => cases hf
  rename_i hlen
  refine ⟨ρ, G, ds, r, e0, fun J H1 G1 g1 wk D hD => ?_⟩
  have hDH : H D = none := g1.hh.free hD
  have hGD : G1 D = none := g1.sub.free hD
  have h0D : w.H0 D = none := r.base.ext.free hDH
  have nown : ∀ (i : Nat) (ds : Ow), ρ[i]? = some (.own ds) → σ[i]? ≠ some (some (.ref D)) := fun i ds hi e => by
    obtain ⟨b, us, e1, e2, _⟩ := r.own i ds hi
    rw [e] at e1
    cases e1
    rw [hDH] at e2
    cases e2
  refine ⟨fun i m H2 => m = ds.length - i ∧ i ≤ ds.length ∧ ∃ G2 us es rest, Rep K w σ H2 G2 ρ ∧ Same G1 G2 ∧ Grow H G H2 G2 ∧ H2 D = some (.lst us) ∧ G2 D = none ∧ Dens K w.cl G2 es us ∧ es.length ≤ i ∧ compL tg t f (ds.drop i) (wipeR ρ tg.ixs) = some rest ∧ es ++ rest = zs,
    ⟨ds.length, rfl, Nat.zero_le _, G1, [], [], zs, (r.go g1).aside hGD h0D nown, Same.refl _, g1.aside hDH hGD, upd_same, hGD, Dens.nil, Nat.zero_le _, hf, rfl⟩, ?_⟩
  rintro i m H2 ⟨rfl, hi, G2, us, es, rest, r2, s2, gr2, hD2, hG2, d2, le2, c2, z2⟩
  obtain ⟨w1, w2⟩ := wk H2 G2 s2 r2.base.sub
  by_cases hlt : i < ds.length
  · right
    rw [drop_at hlt, compL] at c2
    obtain ⟨ρ4, e1, c2⟩ := bind_some2 c2
    obtain ⟨b, e2, c2⟩ := bind_some2 c2
    obtain ⟨hgo, hy⟩ := w1 i ds[i] (List.getElem?_eq_getElem hlt)
    refine ⟨hgo, fun H' => ∃ G2 us es rest, Rep K w σ H' G2 ρ ∧ Same G1 G2 ∧ Grow H G H' G2 ∧ H' D = some (.lst us) ∧ G2 D = none ∧ Dens K w.cl G2 es us ∧ es.length ≤ i + 1 ∧ compL tg t f (ds.drop (i + 1)) (wipeR ρ tg.ixs) = some rest ∧ es ++ rest = zs,
      fun H' k => ⟨ds.length - (i + 1), by omega, rfl, hlt, k⟩, fun x H3 y => ?_⟩
    obtain ⟨G3, g3, z3⟩ := hy x H3 y
    have r3 := r2.go g3
    obtain ⟨σ4, k1, k2⟩ := put_ok (r3.wipe tg.ixs) e1 z3
    refine ⟨σ4, k1, sets_wipe k1, seqT k2 e2 fun H4 G4 g4 r4 => ?_⟩
    have g24 := g3.trans g4
    cases b with
    | false =>
      refine iteF ⟨G4, us, es, rest, r2.go g24, s2.trans g24.gg, gr2.trans g24, g24.hh _ _ hD2, g24.still hD2 hG2, d2.mono g24.gg, by omega, ?_, z2⟩
      rw [if_neg Bool.false_ne_true] at c2
      exact c2
    | true =>
      rw [if_pos rfl] at c2
      obtain ⟨e, e3, c2⟩ := bind_some2 c2
      obtain ⟨rest', e4, c2⟩ := map_some2 c2
      refine iteT (seqE r4 e3 fun yv H5 G5 g5 r5 z5 => ?_)
      have g25 := g24.trans g5
      have hG5 := g25.still hD2 hG2
      refine ⟨us, g25.hh _ _ hD2, line_lt (by rw [d2.length]; omega), G5, us ++ [yv], es ++ [e], rest', (r2.go g25).aside hG5 h0D nown, s2.trans g25.gg, (gr2.trans g25).aside hDH hG5, upd_same, hG5, (d2.mono g25.gg).append (Dens.cons z5 Dens.nil), ?_, e4, ?_⟩
      · rw [List.length_append, List.length_singleton]
        omega
      · rw [← z2, ← c2, List.append_assoc]
        rfl
  · left
    have e : i = ds.length := by omega
    subst e
    rw [List.drop_length, compL] at c2
    cases c2
    rw [List.append_nil] at z2
    subst z2
    exact ⟨w2, q D us H2 G2 gr2 hDH hD2 hG2 d2⟩
end
section
variable {X : Cx} {w : Wd} {elt tgx iter : Expr} {ifs : List Expr} {scope : Scope} {own : List (Str × Nat)} {pos : Pos} {f : Ef} {fs : Af} {t : Tf} {tg : Tg}
theorem vf_comp (hc : X.calm = true) (hN : X.N.Nodup) (hi : VI w X tgx iter fs) (ok : BlkOk X.N X.env.scope scope own) (ho : own.map (·.2) = tg.ixs)
    (hg : ∀ (s : Shared) (H : Hp) (C : Addr) (cl : List (Str × Addr)) (fp : List Addr), VG w (X.blk s H scope (compEnvC scope cl C X.env) fp) tgx tg) (ht : ∀ (s : Shared) (H : Hp) (C : Addr) (cl : List (Str × Addr)) (fp : List Addr), VTs w (X.blk s H scope (compEnvC scope cl C X.env) fp) ifs t)
    (he : ∀ (s : Shared) (H : Hp) (C : Addr) (cl : List (Str × Addr)) (fp : List Addr), VE w (X.blk s H scope (compEnvC scope cl C X.env) fp) elt f) (hs : ∀ x, foldedSetIterable iter X.env x = pure x := by intro _; rfl) :
    VF w X (.ListComp elt [⟨tgx, iter, ifs, 0⟩] scope pos) (aComp fs tg t f) :=
  PE.imp (pe_lc hc hN hi ok hg ht he hs) fun σ H Q h => by
    rw [ho]
    exact comp_imp σ H Q h
end

section
variable {X : Cx} {w : Wd} {elt tgx iter : Expr} {ifs : List Expr} {scope : Scope} {own : List (Str × Nat)} {pos spos py : Pos} {f : Ef} {fs : Af} {t : Tf} {tg : Tg} {i : Nat} {y : Str}
/-- y = [..] on one line: y has the list for its own -/
theorem vs_setC (hc : X.calm = true) (hN : X.N.Nodup) (hy : X.N[i]? = some y) (hyl : X.env.scope.names.lookup y = some .local)
    (hsw : swapsWith (.ListComp elt [⟨tgx, iter, ifs, 0⟩] scope pos) (some (.Name y py)) spos.line X.env = pure true) (hi : VI w X tgx iter fs) (ok : BlkOk X.N X.env.scope scope own) (ho : own.map (·.2) = tg.ixs)
    (hg : ∀ (s : Shared) (H : Hp) (C : Addr) (cl : List (Str × Addr)) (fp : List Addr), VG w (X.blk s H scope (compEnvC scope cl C X.env) fp) tgx tg) (ht : ∀ (s : Shared) (H : Hp) (C : Addr) (cl : List (Str × Addr)) (fp : List Addr), VTs w (X.blk s H scope (compEnvC scope cl C X.env) fp) ifs t)
    (he : ∀ (s : Shared) (H : Hp) (C : Addr) (cl : List (Str × Addr)) (fp : List Addr), VE w (X.blk s H scope (compEnvC scope cl C X.env) fp) elt f) (hs : ∀ x, foldedSetIterable iter X.env x = pure x := by intro _; rfl) :
    VS w X (.Assign [.Name y py] (.ListComp elt [⟨tgx, iter, ifs, 0⟩] scope pos) spos) (sSetF i (aComp fs tg t f)) :=
  PS.imp (ps_setLc hc hN hy hyl hsw hi ok hg ht he hs) fun Ds σ H ⟨ρ, G, r, q⟩ => by
    unfold sSetF at q
    cases e1 : aComp fs tg t f ρ with
    | none =>
      rw [e1] at q
      exact q.elim
    | some ds =>
      rw [e1] at q
      rw [ho]
      exact comp_imp σ H _ ⟨ρ, G, ds, r, e1, fun a vs H1 G1 g1 h0 h1 h2 h3 => q _ H1 G1 g1.gg (r.setOwn g1 i h0 h1 h2 ⟨vs, rfl, h3⟩ fun _ _ z => nomatch z)⟩
theorem vs_setCs (hc : X.calm = true) (hN : X.N.Nodup) (hy : X.N[i]? = some y) (hyl : X.env.scope.names.lookup y = some .local)
    (hsw : swapsWith (.ListComp elt [⟨tgx, iter, ifs, 0⟩] scope pos) (some (.Name y py)) spos.line X.env = pure true) (hi : VI w X tgx iter fs) (ok : BlkOk X.N X.env.scope scope own) (ho : own.map (·.2) = tg.ixs)
    (hg : ∀ (s : Shared) (H : Hp) (C : Addr) (cl : List (Str × Addr)) (fp : List Addr), VG w (X.blk s H scope (compEnvC scope cl C X.env) fp) tgx tg) (ht : ∀ (s : Shared) (H : Hp) (C : Addr) (cl : List (Str × Addr)) (fp : List Addr), VTs w (X.blk s H scope (compEnvC scope cl C X.env) fp) ifs t)
    (he : ∀ (s : Shared) (H : Hp) (C : Addr) (cl : List (Str × Addr)) (fp : List Addr), VE w (X.blk s H scope (compEnvC scope cl C X.env) fp) elt f) (hs : ∀ x, foldedSetIterable iter X.env x = pure x := by intro _; rfl) :
    VS w X (.Assign [.Name y py] (.ListComp elt [⟨tgx, iter, ifs, 0⟩] scope pos) spos) (sSet i (fL (aComp fs tg t f))) :=
  PS.imp (ps_setLc hc hN hy hyl hsw hi ok hg ht he hs) fun Ds σ H ⟨ρ, G, r, q⟩ => by
    unfold sSet at q
    cases e1 : fL (aComp fs tg t f) ρ with
    | none =>
      rw [e1] at q
      exact q.elim
    | some d =>
      rw [e1] at q
      rw [ho]
      exact comp_imp σ H _ (fL_imp σ H _ ⟨ρ, G, d, r, e1, fun v H1 G1 g1 z1 => q _ H1 G1 g1.gg ((r.go g1).setSh i z1)⟩)
end

/-! ### defs -/
inductive Ret where
  | ok (d : D) | fr (o : Ow) | stuck
def retOf : Out → Ret
  | .rt d => .ok d
  | .rf ds => .fr ds
  | .nx _ => .ok .non
  | _ => .stuck
def startR (n : Nat) (ds : List D) : Env := ds.map .sh ++ List.replicate (n - ds.length) .no
def runF (n : Nat) (F : Sf) (ds : List D) : Ret := retOf (F (startR n ds))
def retP (K : PySem.W.Frag) (cl : Nat → ClsT) (G H : Hp) (Q : VK) : Ret → Prop
  | .ok d => ∀ v H' G', Grow H G H' G' → Den K cl G' d v → Q v H'
  | .fr o => ∀ a ho H' G', Grow H G H' G' → H a = none → H' a = some ho → G' a = none → OwOk K cl G' o ho → Q (.ref a) H'
  | .stuck => False
/-- a def's promise by its mirror -/
def spF (K : PySem.W.Frag) (cl : Nat → ClsT) (np : Nat) (F : List D → Ret) : Sp := fun vs H Q _ => ∃ G ds, Same G H ∧ Dens K cl G ds vs ∧ ds.length = np ∧ retP K cl G H Q (F ds)
theorem start_rep {K : PySem.W.Frag} {cl : Nat → ClsT} {N : List Str} {G H : Hp} {ds : List D} {vs : List V} {sf : Addr} (s : Same G H) (h : Dens K cl G ds vs) (hl : ds.length ≤ N.length) : Rep K ⟨cl, G, H, sf⟩ (start N vs) H G (startR N.length ds) := by
  have hv := h.length
  have look : ∀ (i : Nat) (c : Cell), (startR N.length ds)[i]? = some c → c ≠ .no → ∃ d, c = .sh d ∧ ds[i]? = some d := fun i c hc hn => by
    unfold startR at hc
    by_cases hi : i < ds.length
    · rw [List.getElem?_append_left (by simpa using hi), List.getElem?_map, List.getElem?_eq_getElem hi] at hc
      cases hc
      exact ⟨_, rfl, List.getElem?_eq_getElem hi⟩
    · rw [List.getElem?_append_right (by simpa using hi), List.getElem?_replicate] at hc
      split at hc
      · cases hc
        exact absurd rfl hn
      · cases hc
  refine ⟨⟨Same.refl _, Same.refl _, s, fun b hb => .inl hb⟩, ?_, fun i d hi => ?_, fun i es hi => ?_, fun i c es hi => ?_, fun i j es fs a hi _ _ _ => ?_⟩
  · unfold L2.start startR
    rw [List.length_append, List.length_append, List.length_map, List.length_map, List.length_replicate, List.length_replicate, hv]
  · obtain ⟨d', e1, e2⟩ := look i _ hi (fun z => nomatch z)
    cases e1
    obtain ⟨v, k1, k2⟩ := h.get' e2
    refine ⟨v, ?_, k2⟩
    unfold L2.start
    have hlt := (List.getElem?_eq_some_iff.mp k1).1
    rw [List.getElem?_append_left (by simpa using hlt), List.getElem?_map, k1]
    rfl
  · obtain ⟨d', e1, _⟩ := look i _ hi (fun z => nomatch z)
    cases e1
  · obtain ⟨d', e1, _⟩ := look i _ hi (fun z => nomatch z)
    cases e1
  · obtain ⟨d', e1, _⟩ := look i _ hi (fun z => nomatch z)
    cases e1
theorem body_run {X : Cx} {cl : Nat → ClsT} {G H : Hp} {ds : List D} {vs : List V} {N : List Str} {F : Sf} {Q : VK} {sf : Addr} (s : Same G H) (h : Dens X.K cl G ds vs) (hl : ds.length ≤ N.length) (q : retP X.K cl G H Q (runF N.length F ds)) :
    tS X.K ⟨cl, G, H, sf⟩ F { nx := fun _ H' => Q .non H', rt := Q } (start N vs) H := by
  refine ⟨_, G, start_rep s h hl, ?_⟩
  unfold runF at q
  cases e : F (startR N.length ds) with
  | nx ρ =>
    rw [e] at q
    exact fun σ' H' G' s' r' => q .non H' G' r'.base.grow mk_non
  | bk ρ =>
    rw [e] at q
    exact q.elim
  | ct ρ =>
    rw [e] at q
    exact q.elim
  | rt d =>
    rw [e] at q
    exact fun v H' G' b z => q v H' G' b.grow z
  | rf ds =>
    rw [e] at q
    exact fun a vs H' G' b h0 h1 h2 z => q a vs H' G' b.grow h0 h1 h2 z
  | stuck =>
    rw [e] at q
    exact q.elim
theorem fn_ok {P : Program} {wd : World} {K : PySem.W.Frag} {mg : Str → Option Value} {base : Heap} {cl : Nat → ClsT} {x qual : Str} {st : Stmt} {f : Addr} {fd : FuncData} {N ps : List Str} {k : Nat} {F : Sf} (Fn : Fun K x qual st f fd) (S : FnScope N ps (defScope st))
    (body : ∀ (cdv : Value) (A : Around) (outer : List PySem.Env) (s : Shared) (H : Hp) (E : XK) (G0 H0 : Hp) (sf : Addr), Room k (A.deeper (envOfC qual (defScope st) s.heap.objs.size f cdv)) →
      VSs ⟨cl, G0, H0, sf⟩ (cxOf CX0 P wd K mg base N qual (defScope st) f cdv A outer s H E).nox (defBody st) F) :
    FnOk P wd K mg base CX0 (k + 1) f fd ps (spF K cl ps.length (runF N.length F)) := by
  refine Fn.ok S (fun vs H Q E h => ?_) (fun cdv A outer s H vs Q E hr h => ?_)
  · obtain ⟨G, ds, _, h2, h3, _⟩ := h
    rw [h2.length, h3]
  · obtain ⟨G, ds, h1, h2, h3, h4⟩ := h
    refine ⟨_, body cdv A outer s H E G H 0 hr, ?_⟩
    have hpl : ps.length ≤ N.length := by
      have := congrArg List.length S.pre
      rw [List.length_take] at this
      omega
    exact body_run (X := (cxOf CX0 P wd K mg base N qual (defScope st) f cdv A outer s H E).nox) h1 h2 (by omega) h4
def toD : Ret → Option D
  | .ok d => some d
  | .fr o => some o.toD
  | .stuck => none
def toFr : Ret → Option Ow
  | .fr o => some o
  | _ => none
def eCall (F : List D → Ret) (fs : Af) : Ef := fun ρ => (fs ρ).bind fun ds => toD (F ds)
def aCall (F : List D → Ret) (fs : Af) : Env → Option Ow := fun ρ => (fs ρ).bind fun ds => toFr (F ds)
/-- a def of the text, ready to be called -/
structure Def (P : Program) (wd : World) (K : PySem.W.Frag) (mg : Str → Option Value) (base : Heap) (cl : Nat → ClsT) (k : Nat) (x : Str) (np : Nat) (F : List D → Ret) : Prop where
  ex : ∃ (f : Addr) (fd : FuncData) (ps : List Str), mg x = some (.ref f) ∧ PySem.W.keepIn K (.ref f) = true ∧ Binds K fd ps [] ∧ FnOk P wd K mg base CX0 k f fd ps (spF K cl np F)
theorem Def.mono {P : Program} {wd : World} {K : PySem.W.Frag} {mg : Str → Option Value} {base : Heap} {cl : Nat → ClsT} {j k : Nat} {x : Str} {np : Nat} {F : List D → Ret} (d : Def P wd K mg base cl j x np F) (h : j ≤ k) : Def P wd K mg base cl k x np F :=
  let ⟨f, fd, ps, a, b, c, o⟩ := d.ex
  ⟨f, fd, ps, a, b, c, o.mono h⟩
section
variable {X : Cx} {w : Wd} {e : Expr} {es : List Expr} {fs : Af} {pos p : Pos} {x : Str} {k np : Nat} {F : List D → Ret}
theorem retP_of {K : PySem.W.Frag} {cl : Nat → ClsT} {G H : Hp} {Q : VK} {r : Ret} {d : D} (h : toD r = some d) (q : ∀ v H' G', Grow H G H' G' → Den K cl G' d v → Q v H') : retP K cl G H Q r := by
  cases r with
  | ok z =>
    cases h
    exact q
  | fr ds =>
    cases h
    intro a vs H' G' g h0 h1 h2 h3
    exact q (.ref a) H' _ (fresh_in g h0 h1 h2) ((h3.mono (same_upd h2)).den upd_same)
  | stuck => cases h
theorem ve_call (d : Def X.prog X.w X.K X.mg X.base w.cl k x np F) (hr : Room k X.A) (hg : Gl X x) (ha : VA w X (e :: es) fs) (hn : ∀ ρ ds, fs ρ = some ds → ds.length = np)
    (hdb : (x == ("__debug__" : Str)) = false := by decide) (he : starEach (e :: es) X.env = (false, eval e X.env) :: starEach es X.env := by rfl) (hpl : (backTo pos (starEach es X.env)).any (·.1) = false := by rfl) :
    VE w X (.Call (.Name x p) (e :: es) [] pos) (eCall F fs) := by
  obtain ⟨f, fd, ps, a, b, c, o⟩ := d.ex
  refine PE.imp (pe_call (E := E0) o hr hg a b c .nil pass0 ha hdb he hpl) fun σ H Q ⟨ρ, G, z, r, hf, q⟩ => ?_
  obtain ⟨ds, e1, e2⟩ := bind_some2 hf
  refine ⟨ρ, G, ds, r, e1, fun vs H1 G1 g1 z1 => ?_⟩
  show spF _ _ _ _ (vs ++ []) _ _ _
  rw [List.append_nil]
  exact ⟨G1, ds, g1.sub, z1, hn ρ ds e1, retP_of e2 fun v H' G' g' z' => q v H' G' (g1.trans g') z'⟩
theorem vn_call (d : Def X.prog X.w X.K X.mg X.base w.cl k x np F) (hr : Room k X.A) (hg : Gl X x) (ha : VA w X (e :: es) fs) (hn : ∀ ρ ds, fs ρ = some ds → ds.length = np)
    (hdb : (x == ("__debug__" : Str)) = false := by decide) (he : starEach (e :: es) X.env = (false, eval e X.env) :: starEach es X.env := by rfl) (hpl : (backTo pos (starEach es X.env)).any (·.1) = false := by rfl) :
    VN w X (.Call (.Name x p) (e :: es) [] pos) (aCall F fs) := by
  obtain ⟨f, fd, ps, a, b, c, o⟩ := d.ex
  refine PE.imp (pe_call (E := E0) o hr hg a b c .nil pass0 ha hdb he hpl) fun σ H Q ⟨ρ, G, z, r, hf, q⟩ => ?_
  obtain ⟨ds, e1, e2⟩ := bind_some2 hf
  refine ⟨ρ, G, ds, r, e1, fun vs H1 G1 g1 z1 => ?_⟩
  show spF _ _ _ _ (vs ++ []) _ _ _
  rw [List.append_nil]
  refine ⟨G1, ds, g1.sub, z1, hn ρ ds e1, ?_⟩
  cases er : F ds with
  | fr ds' =>
    rw [er] at e2
    cases e2
    exact fun a vs H' G' g' h0 h1 h2 h3 => q a vs H' G' (g1.trans g') (g1.hh.free h0) h1 h2 h3
  | ok _ =>
    rw [er] at e2
    cases e2
  | stuck =>
    rw [er] at e2
    cases e2
/-- the number of written arguments -/
def ALen (fs : Af) (n : Nat) : Prop := ∀ ρ ds, fs ρ = some ds → ds.length = n
theorem alen_nil : ALen aNil 0 := fun ρ ds h => by
  cases h
  rfl
theorem alen_cons {f : Ef} {n : Nat} (h : ALen fs n) : ALen (aCons f fs) (n + 1) := fun ρ ds q => by
  obtain ⟨d, r, _, e2, rfl⟩ := aCons_some q
  rw [List.length_cons, h ρ r e2]
end
end Fw

/-! Fw6: further rules; what a def of the text is to have. -/
namespace Fw
open PySem PySem.Spec PyProof.Rows L2

/-- the built-ins that the text reads are not shadowed -/
structure Bt (mg : Str → Option Value) : Prop where
  len : mg "len" = none
  int : mg "int" = none
  bool : mg "bool" = none
  str : mg "str" = none
  range : mg "range" = none
  isinstance : mg "isinstance" = none
  tuple : mg "tuple" = none
  list : mg "list" = none
  dict : mg "dict" = none
  set : mg "set" = none
  max : mg "max" = none
  min : mg "min" = none
  sum : mg "sum" = none
  any : mg "any" = none
  all : mg "all" = none
  sorted : mg "sorted" = none
  enumerate : mg "enumerate" = none
  zip : mg "zip" = none
  reversed : mg "reversed" = none
  repr : mg "repr" = none
/-- a def of the text stands under its name -/
structure At (K : PySem.W.Frag) (mg : Str → Option Value) (x : Str) (st : Stmt) : Prop where
  ex : ∃ (f : Addr) (fd : FuncData), mg x = some (.ref f) ∧ Fun K x x st f fd
abbrev XX (P : Program) (wd : World) (K : PySem.W.Frag) (mg : Str → Option Value) (base : Heap) (N : List Str) (qual : Str) (sc : Scope) (f : Addr) (cdv : Value) (A : Around) (outer : List PySem.Env) (s : Shared) (H : Hp) (E : XK) : Cx :=
  (cxOf CX0 P wd K mg base N qual sc f cdv A outer s H E).nox
section
variable {P : Program} {wd : World} {K : PySem.W.Frag} {mg : Str → Option Value} {base : Heap} {cl : Nat → ClsT} {x : Str} {st : Stmt} {N ps : List Str} {k : Nat}
theorem def_of {F : Sf} (a : At K mg x st) (S : FnScope N ps (defScope st)) (hb : ∀ f fd, Fun K x x st f fd → Binds K fd ps [])
    (body : ∀ (f : Addr) (cdv : Value) (A : Around) (outer : List PySem.Env) (s : Shared) (H : Hp) (E : XK) (G0 H0 : Hp) (sf : Addr), Room k (A.deeper (envOfC x (defScope st) s.heap.objs.size f cdv)) →
      VSs ⟨cl, G0, H0, sf⟩ (XX P wd K mg base N x (defScope st) f cdv A outer s H E) (defBody st) F) : Def P wd K mg base cl (k + 1) x ps.length (runF N.length F) := by
  obtain ⟨f, fd, e, Fn⟩ := a.ex
  exact ⟨f, fd, ps, e, Fn.kp, hb f fd Fn, fn_ok Fn S fun cdv A outer s H E G0 H0 sf hr => body f cdv A outer s H E G0 H0 sf hr⟩
theorem def_stuck (a : At K mg x st) (hb : ∀ f fd, Fun K x x st f fd → Binds K fd ps []) : Def P wd K mg base cl k x ps.length (fun _ => .stuck) := by
  obtain ⟨f, fd, e, Fn⟩ := a.ex
  refine ⟨f, fd, ps, e, Fn.kp, hb f fd Fn, ⟨fun vs H Q E h => ?_, fun A outer s H args us vs Q E hr he hb hv h => ?_⟩⟩
  · obtain ⟨_, _, _, _, _, z⟩ := h
    exact z.elim
  · obtain ⟨_, _, _, _, _, z⟩ := h
    exact z.elim
end
section
variable {X : Cx} {w : Wd} {e ea eb ec : Expr} {es : List Expr} {f g h : Ef} {fs : Af} {pos p : Pos} {x : Str} {K : PySem.W.Frag} {cl : Nat → ClsT}
theorem ve_ty {n : String} (hg : Gl X x) (hm : X.mg x = none) (hv : bootBuiltins x = some (.type n)) (hn : x ≠ "__name__" := by decide) (hd : (x == ("__debug__" : Str)) = false := by decide) : VE w X (.Name x pos) (eC (.ty n)) :=
  PE.imp (pe_bltn (v := .ty n) hg hm hv rfl hn hd) fun σ H Q ⟨ρ, G, d, r, hf, q⟩ => by
    cases hf
    exact q _ H G (Grow.refl r.base.sub) mk_ty
/-! ### a < b < c -/
theorem ve_chain {op op' : CmpOp} {r r' : R2} {o o' : D → D → Option D} (ho : OpR X (compareOp op) r) (ho' : OpR X (compareOp op') r') (hr : Res2 X.K w.cl r o) (hr' : Res2 X.K w.cl r' o') (ha : VO w X ea f) (hb : VO w X eb g) (hc : VO w X ec h) (hm : lastMarks [op, op'] [eb, ec] = false := by with_unfolding_all rfl) :
    VE w X (.Compare ea [op, op'] [eb, ec] pos) (tChainF o o' f g h) := PE.imp (pe_chain ho ho' ha hb hc hm) fun σ H Q ⟨ρ, G, z, rp, hf, q⟩ => by
  unfold tChainF at hf
  obtain ⟨a, e1, hf⟩ := bind_some2 hf
  obtain ⟨b, e2, hf⟩ := bind_some2 hf
  refine seqO rp e1 fun x H1 G1 g1 r1 z1 => ?_
  refine seqO r1 e2 fun y H2 G2 g2 r2 z2 => ?_
  have z1' := z1.mono g2.gg g2.hh
  have gg := g1.trans g2
  cases e3 : o a b with
  | none =>
    rw [e3] at hf
    cases hf
  | some c =>
    rw [e3] at hf
    refine hr a b c e3 H2 G2 x y _ g2.sub z1' z2 fun v H3 G3 g3 z3 => ?_
    split at hf
    · rename_i e4
      cases e4
      obtain ⟨d, e5, hf⟩ := bind_some2 hf
      refine ⟨true, den_bl z3, iteT (seqO (r2.go g3) e5 fun u H4 G4 g4 r4 z4 => ?_)⟩
      exact hr' b d z hf H4 G4 y u Q g4.sub (z2.mono (g3.trans g4).gg (g3.trans g4).hh) z4 fun v H' G' g' zz => q v H' G' (gg.trans (g3.trans (g4.trans g'))) zz
    · rename_i e4
      cases e4
      cases hf
      exact ⟨false, den_bl z3, iteF (q _ H3 G3 (gg.trans g3) mk_bl)⟩
    · cases hf
theorem vt_chain {op op' : CmpOp} {r r' : R2} {o o' : D → D → Option D} (ho : OpR X (compareOp op) r) (ho' : OpR X (compareOp op') r') (hr : Res2 X.K w.cl r o) (hr' : Res2 X.K w.cl r' o') (ha : VO w X ea f) (hb : VO w X eb g) (hc : VO w X ec h) (hm : lastMarks [op, op'] [eb, ec] = false := by with_unfolding_all rfl) :
    VT w X (.Compare ea [op, op'] [eb, ec] pos) (tB1 (tChainF o o' f g h)) := PT.imp (pt_chain ho ho' ha hb hc hm) fun σ H Q ⟨ρ, G, k, rp, hf, q⟩ => by
  have hf := asB_some hf
  unfold tChainF at hf
  obtain ⟨a, e1, hf⟩ := bind_some2 hf
  obtain ⟨b, e2, hf⟩ := bind_some2 hf
  refine seqO rp e1 fun x H1 G1 g1 r1 z1 => ?_
  refine seqO r1 e2 fun y H2 G2 g2 r2 z2 => ?_
  have z1' := z1.mono g2.gg g2.hh
  have gg := g1.trans g2
  cases e3 : o a b with
  | none =>
    rw [e3] at hf
    cases hf
  | some c =>
    rw [e3] at hf
    refine hr a b c e3 H2 G2 x y _ g2.sub z1' z2 fun v H3 G3 g3 z3 => ?_
    split at hf
    · rename_i e4
      cases e4
      obtain ⟨d, e5, hf⟩ := bind_some2 hf
      refine ⟨true, den_bl z3, iteT (seqO (r2.go g3) e5 fun u H4 G4 g4 r4 z4 => ?_)⟩
      exact hr' b d _ hf H4 G4 y u _ g4.sub (z2.mono (g3.trans g4).gg (g3.trans g4).hh) z4 fun v H' G' g' zz => ⟨k, den_bl zz, q H' G' (gg.trans (g3.trans (g4.trans g')))⟩
    · rename_i e4
      cases e4
      cases hf
      exact ⟨false, den_bl z3, iteF ⟨false, rfl, q H3 G3 (gg.trans g3)⟩⟩
    · cases hf
/-! ### times -/
def oMul (d e : D) : Option D := oMulI d e
def rMulD (K : PySem.W.Frag) : R2 := rI CMul fun i j => .int (i * j)
theorem op_mulD : OpR X (binaryOp .Mult) (rMulD X.K) := op_mul
theorem r_mul : Res2 K cl (rMulD K) oMul := r_mulI
/-! ### is of bools -/
def oIsB (d e : D) : Option D := match d, e with
  | .bl a, .bl b => some (.bl (decide (a = b)))
  | _, _ => none
def oNotB (d e : D) : Option D := match d, e with
  | .bl a, .bl b => some (.bl (!decide (a = b)))
  | _, _ => none
theorem r_isB : Res2 K cl rIsB oIsB := by
  intro d e z hz H G x y Q s hx hy q
  unfold oIsB at hz
  split at hz
  · rename_i a b
    cases hz
    exact ⟨a, b, obs_bl hx, obs_bl hy, q _ H G (Grow.refl s) mk_bl⟩
  · cases hz
theorem r_notB : Res2 K cl rNotB oNotB := by
  intro d e z hz H G x y Q s hx hy q
  unfold oNotB at hz
  split at hz
  · rename_i a b
    cases hz
    exact ⟨a, b, obs_bl hx, obs_bl hy, q _ H G (Grow.refl s) mk_bl⟩
  · cases hz
/-! ### sorted of ints -/
def sortI (ns : List Int) : List Int := ns.mergeSort fun a b => decide (a ≤ b)
theorem sortI_perm (ns : List Int) : (sortI ns).Perm ns := List.mergeSort_perm _ _
theorem sortI_sorted (ns : List Int) : (sortI ns).Pairwise (· ≤ ·) := by
  have h := List.pairwise_mergeSort (le := fun a b : Int => decide (a ≤ b)) (fun a b c h1 h2 => by simp at *; omega) (fun a b => by simp; omega) ns
  exact h.imp fun h => by simpa using h
theorem sorted_uniq : ∀ {l1 l2 : List Int}, l1.Perm l2 → l1.Pairwise (· ≤ ·) → l2.Pairwise (· ≤ ·) → l1 = l2
  | [], l2, p, _, _ => (List.nil_perm.mp p).symm
  | a :: r, [], p, _, _ => absurd (List.perm_nil.mp p) (by simp)
  | a :: r, b :: t, p, h1, h2 => by
    have ha : a ∈ b :: t := p.mem_iff.mp List.mem_cons_self
    have hb : b ∈ a :: r := p.mem_iff.mpr List.mem_cons_self
    have h1' := List.pairwise_cons.mp h1
    have h2' := List.pairwise_cons.mp h2
    have e : a = b := by
      rcases List.mem_cons.mp ha with e | ha
      · exact e
      · rcases List.mem_cons.mp hb with e | hb
        · exact e.symm
        · have := h1'.1 b hb
          have := h2'.1 a ha
          omega
    subst e
    rw [sorted_uniq (List.Perm.cons_inv p) h1'.2 h2'.2]
def oSorted : List D → Option (List D)
  | [d] => ((seqOf d).bind intsOf).map fun ns => (sortI ns).map D.int
  | _ => none
theorem r_sorted : ResCF K cl (rSortedI K) oSorted := by
  intro ds z hz H G vs Q s hv q
  unfold oSorted at hz
  split at hz
  · obtain ⟨ns, e1, rfl⟩ := map_some2 hz
    obtain ⟨v, rfl, h1⟩ := obsl1 hv
    obtain ⟨a, rfl, h2⟩ := seqInts s h1 e1
    refine ⟨a, ns, rfl, h2, fun ns' p hp hs hn => ?_⟩
    rw [sorted_uniq (hp.trans (sortI_perm ns).symm) hs (sortI_sorted ns)]
    exact new_lst s hn (ints_dens _) q
  · cases hz
end
end Fw

/-! Fw7: classes. -/
namespace Fw
open PySem PySem.Spec PyProof.Rows L2

structure ClsOk (K : PySem.W.Frag) (c : ClsT) (names : List Str) : Prop where
  cls : Cls K c.addr
  nm : c.names = names
  no : ∀ f ∈ names, NoAttr K c.addr f
  nd : names.Nodup
  few : names.length ≤ 900
theorem zip_lookup : ∀ {names : List Str} {vs : List V} {i : Nat} {f : Str} {v : V}, names.Nodup → names[i]? = some f → vs[i]? = some v → (names.zip vs).lookup f = some v
  | [], _, _, _, _, _, h, _ => by simp at h
  | _ :: _, [], _, _, _, _, _, h => by simp at h
  | n :: ns, u :: us, 0, f, v, nd, h1, h2 => by
    simp at h1 h2
    subst h1 h2
    simp
  | n :: ns, u :: us, i + 1, f, v, nd, h1, h2 => by
    have h1 : ns[i]? = some f := by simpa using h1
    have ne : (f == n) = false := by
      rw [beq_eq_false_iff_ne]
      rintro rfl
      exact (List.nodup_cons.mp nd).1 (List.mem_of_getElem? h1)
    rw [List.zip_cons_cons, List.lookup_cons, ne]
    exact zip_lookup (List.nodup_cons.mp nd).2 h1 (by simpa using h2)
theorem zip_none : ∀ {names : List Str} {vs : List V} {f : Str}, f ∉ names → (names.zip vs).lookup f = none
  | [], _, _, _ => by simp
  | _ :: _, [], _, _ => by simp
  | n :: ns, u :: us, f, h => by
    rw [List.mem_cons, not_or] at h
    rw [List.zip_cons_cons, List.lookup_cons, beq_eq_false_iff_ne.mpr h.1]
    exact zip_none h.2
theorem putF_new : ∀ {names : List Str} {vs : List V} {f : Str} {y : V}, names.Nodup → names[vs.length]? = some f → putF f y (names.zip vs) = names.zip (vs ++ [y])
  | [], _, _, _, _, h => by simp at h
  | n :: ns, [], f, y, _, h => by
    simp at h
    subst h
    simp [putF]
  | n :: ns, u :: us, f, y, nd, h => by
    have h : ns[us.length]? = some f := by simpa using h
    have ne : n ≠ f := by
      rintro rfl
      exact (List.nodup_cons.mp nd).1 (List.mem_of_getElem? h)
    rw [List.zip_cons_cons, List.cons_append, List.zip_cons_cons]
    show (if n = f then (n, y) :: ns.zip us else (n, u) :: putF f y (ns.zip us)) = _
    rw [if_neg ne, putF_new (List.nodup_cons.mp nd).2 h]
theorem putF_old : ∀ {names : List Str} {vs : List V} {f : Str} {y : V} {j : Nat}, names.Nodup → names[j]? = some f → j < vs.length → putF f y (names.zip vs) = names.zip (vs.set j y)
  | [], _, _, _, _, _, h, _ => by simp at h
  | n :: ns, [], f, y, j, _, h, hj => by simp at hj
  | n :: ns, u :: us, f, y, 0, nd, h, _ => by
    simp at h
    subst h
    simp [putF]
  | n :: ns, u :: us, f, y, j + 1, nd, h, hj => by
    have h : ns[j]? = some f := by simpa using h
    have ne : n ≠ f := by
      rintro rfl
      exact (List.nodup_cons.mp nd).1 (List.mem_of_getElem? h)
    rw [List.zip_cons_cons, List.set_cons_succ, List.zip_cons_cons]
    show (if n = f then (n, y) :: ns.zip us else (n, u) :: putF f y (ns.zip us)) = _
    rw [if_neg ne, putF_old (List.nodup_cons.mp nd).2 h (by simpa using hj)]

section
variable {X : Cx} {w : Wd} {e o : Expr} {es : List Expr} {f g : Ef} {fs : Af} {pos pos' p : Pos} {x fn : Str} {c i j : Nat} {names : List Str}
/-! ### fields -/
def oFld (c i : Nat) : D → Option D
  | .ins c' ds => if c' = c then ds[i]? else none
  | _ => none
theorem ve_fld (k : ClsOk X.K (w.cl c) names) (i : Nat) (hi : names[i]? = some fn) (he : VO w X e f) (hb : attributeBase e fn X.env (eval e X.env) = eval e X.env := by rfl) : VE w X (.Attribute e fn pos) (e1o (oFld c i) f) :=
  PE.imp (pe_fld he hb) fun σ H Q ⟨ρ, G, z, rp, hf, q⟩ => by
    obtain ⟨d, e1, e2⟩ := bind_some2 hf
    refine seqO rp e1 fun v H1 G1 g1 r1 z1 => ?_
    unfold oFld at e2
    split at e2
    · rename_i c' ds
      split at e2
      · rename_i hc
        subst hc
        obtain ⟨a, dx, vs, rfl, h1, h2⟩ := obs_ins z1
        obtain ⟨u, k1, k2⟩ := h2.get' e2
        refine ⟨a, _, dx, _, u, rfl, h1, k.cls, k.no _ (List.mem_of_getElem? hi), ?_, q u H1 G1 g1 k2⟩
        rw [k.nm]
        exact zip_lookup k.nd hi k1
      · cases e2
    · cases e2
/-- self.f = e, self an object of one's own -/
def sFst (i c j : Nat) (f : Ef) : Sf := fun ρ => match cellAt ρ i, f ρ with
  | .own (.obj c' ds), some d => if c' = c then (if ds.length = j then .nx (ρ.set i (.own (.obj c (ds ++ [d])))) else if j < ds.length then .nx (ρ.set i (.own (.obj c (ds.set j d)))) else .stuck) else .stuck
  | _, _ => .stuck
theorem vs_fst (k : ClsOk X.K (w.cl c) names) (j : Nat) (hj : names[j]? = some fn) (ho : PE X o (tVar i)) (he : VE w X e f) (hs : swapsWith e (some (.Attribute o fn pos')) pos.line X.env = pure false := by rfl) :
    VS w X (.Assign [.Attribute o fn pos'] e pos) (sFst i c j f) := PS.imp (ps_fld ho he hs) fun Ds σ H ⟨ρ, G, r, q⟩ => by
  unfold sFst at q
  split at q
  · rename_i c' ds d e1 e2
    split at q
    · rename_i hc
      subst hc
      have hi := cellAt_get e1 (fun z => nomatch z)
      obtain ⟨a, ho, k1, k2, k3, k4, dx, vs, rfl, k5⟩ := r.own i _ hi
      have hsf : a = w.sf := by
        have k6 := r.slf i _ _ hi
        rw [k1] at k6
        cases k6
        rfl
      refine seqE r e2 fun u H1 G1 g1 r1 z1 => ?_
      refine ⟨_, k1, a, _, dx, _, rfl, g1.hh _ _ k2, k.cls, k.no _ (List.mem_of_getElem? hj), ?_, ?_⟩
      · rw [List.length_zip, k.nm]
        have := k.few
        omega
      · have hl := k5.length
        rw [k.nm]
        split at q
        · rename_i hjl
          rw [putF_new k.nd (by rw [hl, hjl]; exact hj), ← k.nm]
          exact q _ _ G1 g1.gg (r1.change hi k1 ⟨dx, _, rfl, (k5.mono g1.gg).append (Dens.cons z1 Dens.nil)⟩ fun _ _ _ => hsf)
        · split at q
          · rename_i hjl
            rw [putF_old k.nd hj (by rw [hl]; exact hjl), ← k.nm]
            exact q _ _ G1 g1.gg (r1.change hi k1 ⟨dx, _, rfl, (k5.mono g1.gg).set j z1⟩ fun _ _ _ => hsf)
          · exact q.elim
    · exact q.elim
  · exact q.elim

/-! ### __init__ and C(..) -/
def runI (c n : Nat) (F : Sf) (ds : List D) : Option (List D) := match F (.own (.obj c []) :: (startR (n - 1) ds)) with
  | .nx ρ => match cellAt ρ 0 with
    | .own (.obj c' zs) => if c' = c then some zs else none
    | _ => none
  | _ => none
def dele (H : Hp) (a : Addr) : Hp := fun b => if b = a then none else H b
theorem dele_ne {H : Hp} {a b : Addr} (h : b ≠ a) : dele H a b = H b := if_neg h
theorem dele_same {H : Hp} {a : Addr} : dele H a a = none := if_pos rfl
def spI (K : PySem.W.Frag) (cl : Nat → ClsT) (c np : Nat) (F : List D → Option (List D)) : Sp := fun vs H Q _ => ∃ G ds x dx us, vs = .ref x :: us ∧ H x = some (.ins (cl c).addr dx []) ∧ G x = none ∧ Same G H ∧ Dens K cl G ds us ∧ ds.length = np ∧
  match F ds with
  | none => False
  | some zs => ∀ H' G' dx' ws, Grow (dele H x) G H' G' → G' x = none → H' x = some (.ins (cl c).addr dx' ((cl c).names.zip ws)) → Dens K cl G' zs ws → Q .non H'
theorem init_ok {P : Program} {wd : World} {K : PySem.W.Frag} {mg : Str → Option Value} {base : Heap} {cl : Nat → ClsT} {nm qual : Str} {st : Stmt} {fa : Addr} {fd : FuncData} {N ps : List Str} {k : Nat} {F : Sf} (Fn : Fun K nm qual st fa fd) (S : FnScope N ps (defScope st)) (hp : 0 < ps.length)
    (body : ∀ (cdv : Value) (A : Around) (outer : List PySem.Env) (s : Shared) (H : Hp) (E : XK) (G0 H0 : Hp) (sf : Addr), Room k (A.deeper (envOfC qual (defScope st) s.heap.objs.size fa cdv)) →
      VSs ⟨cl, G0, H0, sf⟩ (XX P wd K mg base N qual (defScope st) fa cdv A outer s H E) (defBody st) F) :
    FnOk P wd K mg base CX0 (k + 1) fa fd ps (spI K cl c (ps.length - 1) (runI c N.length F)) := by
  refine Fn.ok S (fun vs H Q E h => ?_) (fun cdv A outer s H vs Q E hr h => ?_)
  · obtain ⟨G, ds, x, dx, us, rfl, _, _, _, h2, h3, _⟩ := h
    rw [List.length_cons, h2.length, h3]
    omega
  · obtain ⟨G, ds, x, dx, us, rfl, hx, hgx, hs, h2, h3, h4⟩ := h
    refine ⟨_, body cdv A outer s H E G (dele H x) x hr, ?_⟩
    have hpl : ps.length ≤ N.length := by
      have := congrArg List.length S.pre
      rw [List.length_take] at this
      omega
    have hv := h2.length
    refine ⟨.own (.obj c []) :: startR (N.length - 1) ds, G, ⟨⟨fun b u hb => ?_, Same.refl _, hs, fun b hb => .inl hb⟩, ?_, fun i d hi => ?_, fun i u hi => ?_, fun i c' u hi => ?_, fun i j u u' a hi hj _ _ => ?_⟩, ?_⟩
    · have hb : dele H x b = some u := hb
      by_cases q : b = x
      · rw [q, dele_same] at hb
        cases hb
      · rw [dele_ne q] at hb
        exact hb
    · unfold L2.start startR
      rw [List.length_append, List.length_map, List.length_replicate, List.length_cons, List.length_cons, List.length_append, List.length_map, List.length_replicate]
      omega
    · cases i with
      | zero => cases hi
      | succ i =>
        have hi : (startR (N.length - 1) ds)[i]? = some (.sh d) := by simpa using hi
        unfold startR at hi
        by_cases hlt : i < ds.length
        · rw [List.getElem?_append_left (by simpa using hlt), List.getElem?_map] at hi
          obtain ⟨d', e1, e2⟩ := map_some2 hi
          cases e2
          obtain ⟨v, k1, k2⟩ := h2.get' e1
          refine ⟨v, ?_, k2⟩
          unfold L2.start
          have hlv := (List.getElem?_eq_some_iff.mp k1).1
          rw [List.getElem?_append_left (by simpa using hlv), List.getElem?_map, List.getElem?_cons_succ, k1]
          rfl
        · rw [List.getElem?_append_right (by simpa using hlt), List.getElem?_replicate] at hi
          split at hi
          · cases hi
          · cases hi
    · cases i with
      | zero =>
        cases hi
        refine ⟨x, _, ?_, hx, hgx, dele_same, dx, [], by rw [List.zip_nil_right], Dens.nil⟩
        unfold L2.start
        simp
      | succ i =>
        have hi : (startR (N.length - 1) ds)[i]? = some (.own u) := by simpa using hi
        unfold startR at hi
        by_cases hlt : i < ds.length
        · rw [List.getElem?_append_left (by simpa using hlt), List.getElem?_map] at hi
          obtain ⟨d', e1, e2⟩ := map_some2 hi
          cases e2
        · rw [List.getElem?_append_right (by simpa using hlt), List.getElem?_replicate] at hi
          split at hi
          · cases hi
          · cases hi
    · cases i with
      | zero =>
        unfold L2.start
        simp
      | succ i =>
        have hi : (startR (N.length - 1) ds)[i]? = some (.own (.obj c' u)) := by simpa using hi
        unfold startR at hi
        by_cases hlt : i < ds.length
        · rw [List.getElem?_append_left (by simpa using hlt), List.getElem?_map] at hi
          obtain ⟨d', e1, e2⟩ := map_some2 hi
          cases e2
        · rw [List.getElem?_append_right (by simpa using hlt), List.getElem?_replicate] at hi
          split at hi
          · cases hi
          · cases hi
    · have only : ∀ (i : Nat) (u : Ow), (Cell.own (.obj c []) :: startR (N.length - 1) ds)[i]? = some (.own u) → i = 0 := fun i u hi => by
        cases i with
        | zero => rfl
        | succ i =>
          have hi : (startR (N.length - 1) ds)[i]? = some (.own u) := by simpa using hi
          unfold startR at hi
          by_cases hlt : i < ds.length
          · rw [List.getElem?_append_left (by simpa using hlt), List.getElem?_map] at hi
            obtain ⟨d', e1, e2⟩ := map_some2 hi
            cases e2
          · rw [List.getElem?_append_right (by simpa using hlt), List.getElem?_replicate] at hi
            split at hi
            · cases hi
            · cases hi
      rw [only i u hi, only j u' hj]
    · unfold runI at h4
      cases e : F (.own (.obj c []) :: startR (N.length - 1) ds) with
      | nx ρ =>
        rw [e] at h4
        dsimp only at h4
        cases e2 : cellAt ρ 0 with
        | own u =>
          rw [e2] at h4
          cases u with
          | obj c' zs =>
            dsimp only at h4
            by_cases hc : c' = c
            · subst hc
              rw [if_pos rfl] at h4
              intro σ' H' G' s' r'
              have hi := cellAt_get e2 (fun z => nomatch z)
              obtain ⟨a, ho, k1, k2, k3, k4, dx', ws, rfl, k5⟩ := r'.own 0 _ hi
              have hax : a = x := by
                have k6 := r'.slf 0 _ _ hi
                rw [k1] at k6
                cases k6
                rfl
              subst hax
              exact h4 H' G' dx' ws r'.base.grow k3 k2 k5
            · rw [if_neg hc] at h4
              exact h4.elim
          | lst _ => exact h4.elim
          | dic _ _ => exact h4.elim
        | no =>
          rw [e2] at h4
          exact h4.elim
        | sh _ =>
          rw [e2] at h4
          exact h4.elim
      | bk ρ =>
        rw [e] at h4
        exact h4.elim
      | ct ρ =>
        rw [e] at h4
        exact h4.elim
      | rt d =>
        rw [e] at h4
        exact h4.elim
      | rf ds =>
        rw [e] at h4
        exact h4.elim
      | stuck =>
        rw [e] at h4
        exact h4.elim
end
end Fw

/-! Fw8: objects made, properties, methods, len of an object. -/
namespace Fw
open PySem PySem.Spec PyProof.Rows L2

/-- a class ready to be called -/
structure MkD (P : Program) (wd : World) (K : PySem.W.Frag) (mg : Str → Option Value) (base : Heap) (cl : Nat → ClsT) (k c : Nat) (x : Str) (np : Nat) (F : List D → Option (List D)) : Prop where
  ex : ∃ (f : Addr) (fd : FuncData) (ps : List Str), mg x = some (.ref (cl c).addr) ∧ Mk K (cl c).addr f ∧ Binds K fd ps [] ∧ FnOk P wd K mg base CX0 k f fd ps (spI K cl c np F)
structure PrD (P : Program) (wd : World) (K : PySem.W.Frag) (mg : Str → Option Value) (base : Heap) (cl : Nat → ClsT) (k c : Nat) (fn : Str) (F : List D → Ret) : Prop where
  ex : ∃ (p g : Addr) (fd : FuncData) (ps : List Str), PropOf K (cl c).addr fn p g ∧ Binds K fd ps [] ∧ FnOk P wd K mg base CX0 k g fd ps (spF K cl 1 F)
structure MtD (P : Program) (wd : World) (K : PySem.W.Frag) (mg : Str → Option Value) (base : Heap) (cl : Nat → ClsT) (k c : Nat) (m : Str) (np : Nat) (F : List D → Ret) : Prop where
  ex : ∃ (f : Addr) (fd : FuncData) (ps : List Str), Meth K (cl c).addr m f ∧ Binds K fd ps [] ∧ FnOk P wd K mg base CX0 k f fd ps (spF K cl np F)
theorem MkD.mono {P wd K mg base cl j k c x np F} (d : MkD P wd K mg base cl j c x np F) (h : j ≤ k) : MkD P wd K mg base cl k c x np F :=
  let ⟨f, fd, ps, a, b, e, o⟩ := d.ex
  ⟨f, fd, ps, a, b, e, o.mono h⟩
theorem PrD.mono {P wd K mg base cl j k c x F} (d : PrD P wd K mg base cl j c x F) (h : j ≤ k) : PrD P wd K mg base cl k c x F :=
  let ⟨p, f, fd, ps, a, b, o⟩ := d.ex
  ⟨p, f, fd, ps, a, b, o.mono h⟩
theorem MtD.mono {P wd K mg base cl j k c x np F} (d : MtD P wd K mg base cl j c x np F) (h : j ≤ k) : MtD P wd K mg base cl k c x np F :=
  let ⟨f, fd, ps, a, b, o⟩ := d.ex
  ⟨f, fd, ps, a, b, o.mono h⟩
section
variable {X : Cx} {w : Wd} {e o : Expr} {es : List Expr} {f g : Ef} {fs : Af} {pos pos' apos p : Pos} {x fn m : Str} {c i j k np : Nat} {names : List Str}
def aMake (c : Nat) (F : List D → Option (List D)) (fs : Af) : Env → Option Ow := fun ρ => (fs ρ).bind fun ds => (F ds).map fun zs => .obj c zs
theorem vn_make {F : List D → Option (List D)} (d : MkD X.prog X.w X.K X.mg X.base w.cl k c x np F) (hr : Room (k + 1) X.A) (hg : Gl X x) (ha : VA w X (e :: es) fs) (hn : ALen fs np)
    (hdb : (x == ("__debug__" : Str)) = false := by decide) (he : starEach (e :: es) X.env = (false, eval e X.env) :: starEach es X.env := by rfl) (hpl : (backTo pos (starEach es X.env)).any (·.1) = false := by rfl) :
    VN w X (.Call (.Name x p) (e :: es) [] pos) (aMake c F fs) := by
  obtain ⟨f, fd, ps, a, b, e', o⟩ := d.ex
  refine PE.imp (pe_make (E := E0) b o hr hg a e' .nil pass0 ha hdb he hpl) fun σ H Q ⟨ρ, G, z, r, hf, q⟩ => ?_
  obtain ⟨ds, e1, hf⟩ := bind_some2 hf
  obtain ⟨zs, e2, rfl⟩ := map_some2 hf
  refine ⟨ρ, G, ds, r, e1, fun vs H1 G1 g1 z1 => ?_⟩
  intro y dy hy hdy hne
  show spI _ _ _ _ _ (.ref y :: (vs ++ [])) _ _ _
  rw [List.append_nil]
  have sub1 : Same H1 (upd (upd H1 dy (.own y)) y (.ins (w.cl c).addr dy [])) := fun b' u hb => by
    rw [upd_ne (ne_of_none hb hy), upd_ne (ne_of_none hb hdy)]
    exact hb
  refine ⟨G1, ds, y, dy, vs, rfl, upd_same, g1.sub.free hy, g1.sub.trans sub1, z1, hn ρ ds e1, ?_⟩
  rw [e2]
  intro H' G' dx' ws g' h1 h2 h3
  refine ⟨rfl, q y _ H' G' ⟨fun b' u hb => ?_, g1.gg.trans g'.gg, g'.sub, fun b' hb => ?_⟩ (g1.hh.free hy) h2 h1 ⟨dx', ws, rfl, h3⟩⟩
  · refine g'.hh _ _ ?_
    have hb1 := g1.hh _ _ hb
    rw [dele_ne (ne_of_none hb1 hy)]
    exact sub1 _ _ hb1
  · rcases g'.new b' hb with z | z
    · exact g1.new b' z
    · right
      cases q2 : H b' with
      | none => rfl
      | some u =>
        have hb1 := g1.hh _ _ q2
        rw [dele_ne (ne_of_none hb1 hy), sub1 _ _ hb1] at z
        cases z
/-! ### observed objects handed to a def that gives a plain value -/
def scal : D → Option D
  | .int i => some (.int i)
  | .bl b => some (.bl b)
  | .str x => some (.str x)
  | .non => some .non
  | _ => none
theorem scal_eq {d z : D} (h : scal d = some z) : z = d ∧ ∀ {K cl} {G G' : Hp} {v : V}, Den K cl G d v → Den K cl G' d v := by
  cases d with
  | int i =>
    cases h
    exact ⟨rfl, fun q => by rw [den_int q]; exact mk_int⟩
  | bl i =>
    cases h
    exact ⟨rfl, fun q => by rw [den_bl q]; exact mk_bl⟩
  | str i =>
    cases h
    exact ⟨rfl, fun q => by rw [den_str q]; exact mk_str⟩
  | non =>
    cases h
    exact ⟨rfl, fun q => by rw [den_non q]; exact mk_non⟩
  | _ => cases h
theorem obs_stable {K : PySem.W.Frag} {cl : Nat → ClsT} {G H : Hp} {c : Nat} {ds : List D} {v : V} (s : Same G H) (h : Obs K cl G H (.ins c ds) v) : ∃ Gc, Same G Gc ∧ Same Gc H ∧ Den K cl Gc (.ins c ds) v := by
  obtain ⟨a, dx, vs, rfl, h1, h2⟩ := obs_ins h
  have sg : Same G (upd G a (.ins (cl c).addr dx ((cl c).names.zip vs))) := fun b u hb => by
    by_cases q : b = a
    · subst q
      have := s _ _ hb
      rw [h1] at this
      rw [upd_same]
      exact this
    · rw [upd_ne q]
      exact hb
  refine ⟨_, sg, fun b u hb => ?_, ?_⟩
  · by_cases q : b = a
    · subst q
      rw [upd_same] at hb
      rw [← hb]
      exact h1
    · rw [upd_ne q] at hb
      exact s _ _ hb
  · simp only [Den]
    exact ⟨a, dx, vs, rfl, upd_same, h2.mono sg⟩
def eProp (c : Nat) (F : List D → Ret) (f : Ef) : Ef := fun ρ => (f ρ).bind fun d => match d with
  | .ins c' ds => if c' = c then (toD (F [.ins c ds])).bind scal else none
  | _ => none
theorem ve_prop {F : List D → Ret} (d : PrD X.prog X.w X.K X.mg X.base w.cl k c fn F) (kc : ClsOk X.K (w.cl c) names) (hr : Room (k + 1) X.A) (he : VO w X e f) (hb : attributeBase e fn X.env (eval e X.env) = eval e X.env := by rfl) : VE w X (.Attribute e fn pos) (eProp c F f) := by
  obtain ⟨pp, gg, fd, ps, a, b, o⟩ := d.ex
  refine PE.imp (pe_prop (E := E0) he kc.cls a o hr b .nil pass0 hb) fun σ H Q ⟨ρ, G, z, r, hf, q⟩ => ?_
  obtain ⟨d, e1, hf⟩ := bind_some2 hf
  split at hf
  · rename_i c' ds
    split at hf
    · rename_i hc
      subst hc
      obtain ⟨y, e2, e3⟩ := bind_some2 hf
      obtain ⟨rfl, e4⟩ := scal_eq e3
      refine seqO r e1 fun v H1 G1 g1 r1 z1 => ?_
      obtain ⟨a', dx, vs, rfl, h1, h2⟩ := obs_ins z1
      obtain ⟨Gc, s1, s2, z2⟩ := obs_stable g1.sub z1
      refine ⟨a', dx, _, rfl, h1, Gc, [.ins c' ds], s2, Dens.cons z2 Dens.nil, rfl, retP_of e2 fun u H' G' g' zz => ?_⟩
      exact q u H' G1 (g1.trans ⟨g'.hh, Same.refl _, g1.sub.trans g'.hh, fun b hb => .inl hb⟩) (e4 zz)
    · cases hf
  · cases hf
def eMeth (c : Nat) (F : List D → Ret) (f : Ef) (fs : Af) : Ef := fun ρ => match f ρ with
  | some (.ins c' ds) => if c' = c then (fs ρ).bind fun zs => toD (F (.ins c ds :: zs)) else none
  | _ => none
theorem ve_meth {pl : Sem Bool} {F : List D → Ret} (d : MtD X.prog X.w X.K X.mg X.base w.cl k c m np F) (kc : ClsOk X.K (w.cl c) names) (hm : m ∉ names) (hr : Room k X.A) (ho : VE w X o f) (ha : VA w X (e :: es) fs) (hn : ALen fs (np - 1)) (hp : 0 < np)
    (hst : starEach (e :: es) X.env = (false, eval e X.env) :: starEach es X.env := by rfl) (hpl : (backTo pos (starEach es X.env)).any (·.1) = false := by rfl)
    (ht : eval (.Call (.Attribute o m apos) (e :: es) [] pos) X.env = (do
      let ov ← eval o X.env
      standAt apos.atName
      let (f, first) ← holding [ov] (getMethod ov m pl)
      callWith pos f first (backTo pos (starEach (e :: es) X.env)) (backToKw pos (keywordEach [] X.env))) := by rfl) :
    VE w X (.Call (.Attribute o m apos) (e :: es) [] pos) (eMeth c F f fs) := by
  obtain ⟨fa, fd, ps, a, b, ok⟩ := d.ex
  refine PE.imp (pe_meth (E := E0) ho kc.cls a ok hr b .nil pass0 ha hst hpl ht) fun σ H Q ⟨ρ, G, z, r, hf, q⟩ => ?_
  unfold eMeth at hf
  split at hf
  · rename_i c' ds e1
    split at hf
    · rename_i hc
      subst hc
      obtain ⟨zs, e2, e3⟩ := bind_some2 hf
      refine seqE r e1 fun v H1 G1 g1 r1 z1 => ?_
      obtain ⟨a', dx, vs, rfl, h1, h2⟩ := den_ins z1
      refine ⟨a', dx, _, rfl, g1.sub _ _ h1, by rw [kc.nm]; exact zip_none hm, ρ, G1, zs, r1, e2, fun us H2 G2 g2 z2 => ?_⟩
      show spF _ _ _ _ (.ref a' :: (us ++ [])) _ _ _
      rw [List.append_nil]
      refine ⟨G2, .ins c' ds :: zs, g2.sub, Dens.cons (z1.mono g2.gg) z2, ?_, retP_of e3 fun v H' G' g' z' => q v H' G' (g1.trans (g2.trans g')) z'⟩
      rw [List.length_cons, hn ρ zs e2]
      omega
    · cases hf
  · cases hf
theorem ve_meth0 {pl : Sem Bool} {F : List D → Ret} (d : MtD X.prog X.w X.K X.mg X.base w.cl k c m 1 F) (kc : ClsOk X.K (w.cl c) names) (hm : m ∉ names) (hr : Room k X.A) (ho : VE w X o f)
    (ht : eval (.Call (.Attribute o m apos) [] [] pos) X.env = (do
      let ov ← eval o X.env
      standAt apos.atName
      let (f, first) ← holding [ov] (getMethod ov m pl)
      callWith pos f first (backTo pos (starEach [] X.env)) (backToKw pos (keywordEach [] X.env))) := by rfl) :
    VE w X (.Call (.Attribute o m apos) [] [] pos) (eMeth c F f aNil) := by
  obtain ⟨fa, fd, ps, a, b, ok⟩ := d.ex
  refine PE.imp (pe_meth0 (E := E0) ho kc.cls a ok hr b .nil pass0 ht) fun σ H Q ⟨ρ, G, z, r, hf, q⟩ => ?_
  unfold eMeth at hf
  split at hf
  · rename_i c' ds e1
    split at hf
    · rename_i hc
      subst hc
      obtain ⟨zs, e2, e3⟩ := bind_some2 hf
      cases e2
      refine seqE r e1 fun v H1 G1 g1 r1 z1 => ?_
      obtain ⟨a', dx, vs, rfl, h1, h2⟩ := den_ins z1
      refine ⟨a', dx, _, rfl, g1.sub _ _ h1, by rw [kc.nm]; exact zip_none hm, ?_⟩
      show spF _ _ _ _ (.ref a' :: ([] ++ [])) _ _ E0
      exact ⟨G1, [.ins c' ds], g1.sub, Dens.cons z1 Dens.nil, rfl, retP_of e3 fun v H' G' g' z' => q v H' G' (g1.trans g') z'⟩
    · cases hf
  · cases hf
/-! ### len(o) -/
theorem call_lenO {C fa : Addr} {fd : FuncData} {ps : List Str} {sp : Sp} (hm : Meth X.K C "__len__" fa) (F : FnOk X.prog X.w X.K X.mg X.base CX0 k fa fd ps sp) (hr : Room (k + 1) X.A) (hb : Binds X.K fd ps []) :
    CallR X (.builtin "len") (fun xs H Q => ∃ a dx fs, xs = [.ref a] ∧ H a = some (.ins C dx fs) ∧ sp [.ref a] H (fun v H' => ∃ n, v = .int n ∧ 0 ≤ n ∧ n < 2 ^ 63 ∧ Q (.int n) H') E0) := by
  intro pins s σ H xs us Q I r h
  obtain ⟨a, dx, fs, rfl, ea, hsp⟩ := h
  rw [Vals.ref1 r]
  obtain ⟨mA, J, _⟩ := ins_get I.hok ea
  obtain ⟨od, J, _⟩ := J.look
  obtain ⟨mF, hF⟩ := I.fr
  refine PySem.W.len_K hF I.ok.mod.kin J hm.at_ hm.fn ?_
  have hl := F.len _ _ _ _ hsp
  have e0 : Env0 X.prog X.w X.K X.mg X.base X.A.in1 X.stack s H := I.env0.in1
  refine wpAny_call (codeAny_mono (F.run X.A.in1 X.stack s H ⟨[.ref a], []⟩ [.ref a] [.ref a] _ E0 hr.in1 e0 (by
    have := hb s [.ref a] I.kIn (by simpa using hl)
    simpa using this) (.cons rfl .nil) hsp) fun r s' hq => ?_)
  cases r with
  | error e => exact hq.elim
  | ok fl =>
    cases fl with
    | ret u =>
      obtain ⟨v, H', I', rv, n, rfl, h0, h1, q⟩ := I.after hq
      obtain ⟨t, rfl⟩ := rv
      exact ⟨⟨h0, h1⟩, ⟨.int n, H', I'.tok _, ⟨_, rfl⟩, q⟩⟩
    | next => exact False.elim hq
    | brk => exact False.elim hq
    | cont => exact False.elim hq
def oLenO (c : Nat) (F : List D → Ret) : List D → Option D
  | [.ins c' ds] => if c' = c then (toD (F [.ins c ds])).bind fun z => match z with
    | .int n => if 0 ≤ n ∧ n < 9223372036854775808 then some (.int n) else none
    | _ => none
    else none
  | _ => none
theorem ve_lenO {F : List D → Ret} (d : MtD X.prog X.w X.K X.mg X.base w.cl k c "__len__" 1 F) (hr : Room (k + 1) X.A) (hg : Gl X "len") (hmg : X.mg "len" = none) (ha : VO w X e f)
    (he : starEach [e] X.env = (false, eval e X.env) :: starEach [] X.env := by rfl) (hpl : (backTo pos (starEach [] X.env)).any (·.1) = false := by rfl) : VE w X (.Call (.Name "len" p) [e] [] pos) (eArgs (oLenO c F) (aCons f aNil)) := by
  obtain ⟨fa, fd, ps, a, b, ok⟩ := d.ex
  refine PE.imp (pe_callB (call_lenO a ok hr b) hg hmg (by decide +kernel) (vo_cons ha vo_nil he) (by decide) (by decide) he hpl) fun σ H Q ⟨ρ, G, z, r, hf, q⟩ => ?_
  unfold eArgs at hf
  obtain ⟨ds, e1, hf⟩ := bind_some2 hf
  refine ⟨ρ, G, ds, r, e1, fun vs H1 G1 g1 z1 => ?_⟩
  unfold oLenO at hf
  split at hf
  · rename_i c' zs
    split at hf
    · rename_i hc
      subst hc
      obtain ⟨y, e2, e3⟩ := bind_some2 hf
      split at e3
      · rename_i n
        split at e3
        · rename_i hn
          cases e3
          obtain ⟨v, rfl, h1⟩ := obsl1 z1
          obtain ⟨a', dx, vs, rfl, h2, h3⟩ := obs_ins h1
          obtain ⟨Gc, s1, s2, z2⟩ := obs_stable g1.sub h1
          refine ⟨a', dx, _, rfl, h2, Gc, [.ins c' zs], s2, Dens.cons z2 Dens.nil, rfl, retP_of e2 fun u H' G' g' zz => ?_⟩
          exact ⟨n, den_int zz, hn.1, hn.2, q _ H' G1 (g1.trans ⟨g'.hh, Same.refl _, g1.sub.trans g'.hh, fun b hb => .inl hb⟩) mk_int⟩
        · cases e3
      · cases e3
    · cases hf
  · cases hf
end
end Fw

/-! Fw9: max of ints with a default. -/
namespace Fw
open PySem PySem.Spec PyProof.Rows L2
section
variable {prog : Program} {w : World} {A : Around} {R : Result → Shared → Prop} {E : Value → Shared → Prop} {I : Addr} {fp wr : List Addr} {n : Nat} {P : Nat → Value → Prop} {St : Nat → Heap → Prop} {kw : List (Str × Value)} {s : Shared}
theorem mname : (toString "max" ++ toString ".loop" : String) = "max.loop" := by decide
theorem maxLoopK (W : Walks prog w A.in1 I fp wr n P St) (bt : Nat → Nat → Bool) (hcmp : CmpOf prog w A.in1 .Gt P bt) (S : Addr) (hSf : S ∉ fp) :
    ∀ (k j : Nat) (s : Shared) (vb : Value) (c : Nat), n - (j + 1) = k → j + 1 ≤ n → St (j + 1) s.heap → P (argBest bt j) vb →
    s.heap.get? S = some { cls := .type "list", dict := none, data := .seq #[vb, vb] c, slots := #[] } →
    (∀ v h' tk, P (argBest bt (n - 1)) v → (∀ b o, b ∉ wr → b ≠ S → s.heap.get? b = some o → h'.get? b = some o) → R (.ok (.ret v)) { s with heap := h', toks := tk }) →
    codeAny (model prog w) A (.builtin "max.loop" ⟨[.ref I, .none, .ref S], kw⟩) R s := by
  have nw : S ∉ wr := fun h => hSf (W.sub _ h)
  intro k
  induction k with
  | zero =>
    intro j s vb c hk hj hst hPb hS hR
    have hin : j + 1 = n := by omega
    refine codeAny_builtin PySem.F.entry_max_loop ?_
    rw [Around.under_plainId PySem.F.plain_max_loop _]
    refine wpAny_bind (m := seqItems? (.ref S)) (wpAny_seqItems hS rfl ?_)
    refine wpAny_bind (m := tryCatch (pyNext (.ref I)) _) (wpAny_tryCatch (W.done s _ _ (hin ▸ hst) fun h' tk hk' => ?_))
    have hS' := hk' S _ nw hS
    refine wpAny_bind (m := updateSeq S (fun _ => #[])) ?_
    refine wpAny_updateSeq hS' rfl (wpAny_bind (wpAny_letGo (wpAny_pure ?_)))
    exact hR vb _ tk (by rw [← hin]; exact hPb) fun b o hbw hbS e => (Heap.get?_update_other _ _ (Ne.symm hbS)).trans (hk' b o hbw e)
  | succ k ih =>
    intro j s vb c hk hj hst hPb hS hR
    have hlt : j + 1 < n := by omega
    refine codeAny_builtin PySem.F.entry_max_loop ?_
    rw [Around.under_plainId PySem.F.plain_max_loop _]
    refine wpAny_bind (m := seqItems? (.ref S)) (wpAny_seqItems hS rfl ?_)
    refine wpAny_bind (m := tryCatch (pyNext (.ref I)) _) (wpAny_tryCatch (W.item (j + 1) s _ _ hlt hst fun v h' tk hP hst' hk' => ?_))
    have hS' := hk' S _ nw hS
    refine wpAny_bind (m := tryCatch (holding [v, v] (richCompare .Gt v vb >>= _)) _) (wpAny_tryCatch (wpAny_holding (wpAny_bind (hcmp (j + 1) (argBest bt j) v vb _ _ _ hP hPb ?_))))
    refine wpAny_bind (wpAny_holding (wpAny_truthy_bool ?_))
    refine wpAny_bind (wpAny_letGo (wpAny_pure ?_))
    cases hb : bt (j + 1) (argBest bt j) with
    | true =>
      simp only [if_true]
      refine wpAny_bind (wpAny_updateSeq hS' rfl (wpAny_bind (wpAny_letGo ?_)))
      rw [mname]
      refine wpAny_pure ⟨plainId_quiet PySem.F.plain_max_loop _, ih (j + 1) _ v _ (by omega) hlt (W.frame _ _ _ hst' fun b hbf o e => ?_) (by simp only [argBest, hb, if_true]; exact hP) (Heap.get?_update_self _ hS' rfl)
        fun v' h'' tk'' hP' hk'' => ?_⟩
      · exact (Heap.get?_update_other _ _ (fun h : S = b => hSf (by rw [h]; exact hbf))).trans e
      · exact hR v' h'' tk'' hP' fun b o hbw hbS e => hk'' b o hbw hbS ((Heap.get?_update_other _ _ (Ne.symm hbS)).trans (hk' b o hbw e))
    | false =>
      simp only [Bool.false_eq_true, if_false]
      refine wpAny_bind (wpAny_letGo ?_)
      rw [mname]
      refine wpAny_pure ⟨plainId_quiet PySem.F.plain_max_loop _, ih (j + 1) _ vb c (by omega) hlt hst' (by simp only [argBest, hb, Bool.false_eq_true, if_false]; exact hPb) hS' fun v' h'' tk'' hP' hk'' => ?_⟩
      exact hR v' h'' tk'' hP' fun b o hbw hbS e => hk'' b o hbw hbS (hk' b o hbw e)
theorem maxFirstK (W : Walks prog w A.in1 I fp wr n P St) (bt : Nat → Nat → Bool) (hcmp : CmpOf prog w A.in1 .Gt P bt) (S : Addr) (hSf : S ∉ fp) (hn : 0 < n) {c : Nat} (hst : St 0 s.heap)
    (hS : s.heap.get? S = some { cls := .type "list", dict := none, data := .seq #[] c, slots := #[] })
    (hR : ∀ v h' tk, P (argBest bt (n - 1)) v → (∀ b o, b ∉ wr → b ≠ S → s.heap.get? b = some o → h'.get? b = some o) → R (.ok (.ret v)) { s with heap := h', toks := tk }) :
    codeAny (model prog w) A (.builtin "max.loop" ⟨[.ref I, .none, .ref S], kw⟩) R s := by
  have nw : S ∉ wr := fun h => hSf (W.sub _ h)
  refine codeAny_builtin PySem.F.entry_max_loop ?_
  rw [Around.under_plainId PySem.F.plain_max_loop _]
  refine wpAny_bind (m := seqItems? (.ref S)) (wpAny_seqItems hS rfl ?_)
  refine wpAny_bind (m := tryCatch (pyNext (.ref I)) _) (wpAny_tryCatch (W.item 0 s _ _ hn hst fun v h' tk hP hst' hk' => ?_))
  have hS' := hk' S _ nw hS
  refine wpAny_bind (m := updateSeq S (fun _ => #[v, v])) ?_
  refine wpAny_updateSeq hS' rfl ?_
  rw [mname]
  refine wpAny_pure ⟨plainId_quiet PySem.F.plain_max_loop _, maxLoopK W bt hcmp S hSf _ 0 _ v _ rfl hn (W.frame _ _ _ hst' fun b hbf o e => ?_) hP (Heap.get?_update_self _ hS' rfl) fun v' h'' tk'' hP' hk'' => ?_⟩
  · exact (Heap.get?_update_other _ _ (fun h : S = b => hSf (by rw [h]; exact hbf))).trans e
  · exact hR v' h'' tk'' hP' fun b o hbw hbS e => hk'' b o hbw hbS ((Heap.get?_update_other _ _ (Ne.symm hbS)).trans (hk' b o hbw e))
theorem maxNoneK (W : Walks prog w A.in1 I fp wr 0 P St) (S : Addr) (hSf : S ∉ fp) {c : Nat} {d : Value} (hst : St 0 s.heap)
    (hS : s.heap.get? S = some { cls := .type "list", dict := none, data := .seq #[] c, slots := #[] })
    (hR : ∀ h' tk, (∀ b o, b ∉ wr → s.heap.get? b = some o → h'.get? b = some o) → R (.ok (.ret d)) { s with heap := h', toks := tk }) :
    codeAny (model prog w) A (.builtin "max.loop" ⟨[.ref I, .none, .ref S], [(Str.ofString "default", d)]⟩) R s := by
  refine codeAny_builtin PySem.F.entry_max_loop ?_
  rw [Around.under_plainId PySem.F.plain_max_loop _]
  refine wpAny_bind (m := seqItems? (.ref S)) (wpAny_seqItems hS rfl ?_)
  refine wpAny_bind (m := tryCatch (pyNext (.ref I)) _) (wpAny_tryCatch (W.done s _ _ hst fun h' tk hk' => ?_))
  exact wpAny_bind (wpAny_rule (wpAny_pure (hR h' tk hk')))
theorem call_treeK {id : String} {b : Builtin} {args : List Value} {kw : List (Str × Value)} {Q : Value → Shared → Prop} (hk : builtinKind id = none) (hp : plainId id = true)
    (hb : entryFor table id = some b) (ha : argsOk id ⟨args, kw⟩)
    (hc : wpAny (model prog w) A.in1 (b ⟨args, kw⟩) (fun fin s' => match fin with
      | .done f => (match (Except.ok f : Result) with | .ok (.ret v) => Q v s' | .ok _ => False | .error e => E e s')
      | .again c' => c'.quiet = true ∧ codeAny (model prog w) A c' (fun r s' => match r with | .ok (.ret v) => Q v s' | .ok _ => False | .error e => E e s') s') E s) :
    wpAny (model prog w) A (call (.builtin id) args kw) Q E s := by
  refine wpAny_call (codeAny_call_builtin hp hb ?_)
  simp only [checkBuiltinCall, hk]
  cases hsig : Manifest.signature? id with
  | none => exact wpAny_pure hc
  | some sig =>
    simp only [argsOk, hsig] at ha
    have h2 : Bind.checkArgs id sig ⟨args, kw⟩ = pure () := ha
    show wpAny _ A.in1 (Bind.checkArgs id sig ⟨args, kw⟩) _ _ s
    rw [h2]
    exact wpAny_pure hc
theorem args_max_def (a d : Value) : argsOk "max" ⟨[a], [(Str.ofString "default", d)]⟩ := by unfold argsOk; kernel_rfl
theorem max_default {x d : Value} {Q : Value → Shared → Prop}
    (h : wpAny (model prog w) A.in1 (pyIter x) (fun it s₂ => ∃ I fp wr n P St bt, it = .ref I ∧ Walks prog w A.in1 I fp wr n P St ∧ St 0 s₂.heap ∧ (∀ b ∈ fp, b < s₂.heap.objs.size) ∧ CmpOf prog w A.in1 .Gt P bt ∧
      ∀ v h' tk, ((0 < n ∧ P (argBest bt (n - 1)) v) ∨ (n = 0 ∧ v = d)) → (∀ b o, b ∉ wr → s₂.heap.get? b = some o → h'.get? b = some o) → Q v { s₂ with heap := h', toks := tk }) E s) :
    wpAny (model prog w) A (call (.builtin "max") [x] [(Str.ofString "default", d)]) Q E s := by
  refine call_treeK PySem.F.kind_max PySem.F.plain_max PySem.F.entry_max (args_max_def _ _) ?_
  refine wpAny_bind (m := Builtin.Builtins.bindParams "max" ["key", "default"] 0 ⟨[], [(Str.ofString "default", d)]⟩) (wpAny_of_eq (show Builtin.Builtins.bindParams "max" ["key", "default"] 0 ⟨[], [(Str.ofString "default", d)]⟩ = pure [none, some d] from rfl) ?_)
  refine wpAny_bind (wpAny_pure ?_)
  refine wpAny_bind (wpAny_mono h (fun it s₂ h₂ => ?_) fun _ _ e => e)
  obtain ⟨I, fp, wr, n, P, St, bt, rfl, W, hst, hfp, hcmp, hQ⟩ := h₂
  refine wpAny_bind (wpAny_newObj_type ?_)
  have hSf : s₂.heap.objs.size ∉ fp := fun hm => Nat.lt_irrefl _ (hfp _ hm)
  rw [mname]
  have hst' := W.frame 0 _ (s₂.heap.push { cls := .type "list", data := .seq ([] : List Value).toArray }) hst fun b _ o e => Heap.get?_push_of_some _ e
  cases n with
  | zero =>
    refine wpAny_pure ⟨plainId_quiet PySem.F.plain_max_loop _, maxNoneK W s₂.heap.objs.size hSf hst' (Heap.get?_push_size _ rfl) fun h' tk hk => ?_⟩
    exact hQ d h' tk (.inr ⟨rfl, rfl⟩) fun b o hbw e => hk b o hbw (Heap.get?_push_of_some _ e)
  | succ n =>
    refine wpAny_pure ⟨plainId_quiet PySem.F.plain_max_loop _, maxFirstK W bt hcmp s₂.heap.objs.size hSf (Nat.succ_pos n) hst' (Heap.get?_push_size _ rfl) fun v h' tk hP hk => ?_⟩
    exact hQ v h' tk (.inl ⟨Nat.succ_pos n, hP⟩) fun b o hbw e => hk b o hbw (Nat.ne_of_lt (Heap.lt_size e)) (Heap.get?_push_of_some _ e)
end
/-- the greatest of ints, or the default -/
def maxIx (ns : List Int) (d : Int) : Int := (maxI ns).getD d
theorem maxIx_nil (d : Int) : maxIx [] d = d := rfl
section
variable {X : Cx} {w : Wd} {e : Expr} {es : List Expr} {f g : Ef} {pos p kp : Pos}
theorem argMax (ns : List Int) (n : Nat) (hn : n < ns.length) : ns.getD (argBest (fun i j => decide (ns.getD i 0 > ns.getD j 0)) n) 0 ∈ ns ∧ ∀ j, j ≤ n → ns.getD j 0 ≤ ns.getD (argBest (fun i j => decide (ns.getD i 0 > ns.getD j 0)) n) 0 := by
  induction n with
  | zero =>
    refine ⟨?_, fun j hj => ?_⟩
    · show ns.getD 0 0 ∈ ns
      rw [List.getD_eq_getElem?_getD, List.getElem?_eq_getElem hn]
      exact List.getElem_mem hn
    · have : j = 0 := by omega
      subst this
      exact Int.le_refl _
  | succ n ih =>
    obtain ⟨h1, h2⟩ := ih (by omega)
    unfold argBest
    split
    · rename_i hb
      have hb := of_decide_eq_true hb
      refine ⟨?_, fun j hj => ?_⟩
      · rw [List.getD_eq_getElem?_getD, List.getElem?_eq_getElem hn]
        exact List.getElem_mem hn
      · by_cases q : j = n + 1
        · rw [q]
          exact Int.le_refl _
        · have := h2 j (by omega)
          omega
    · rename_i hb
      refine ⟨h1, fun j hj => ?_⟩
      by_cases q : j = n + 1
      · rw [q]
        simp at hb
        simpa using hb
      · exact h2 j (by omega)
theorem maxI_is {ns : List Int} {m : Int} (h1 : m ∈ ns) (h2 : ∀ y ∈ ns, y ≤ m) : maxI ns = some m := by
  cases e : maxI ns with
  | none =>
    cases ns with
    | nil => cases h1
    | cons _ _ => cases e
  | some k =>
    obtain ⟨k1, k2⟩ := maxI_spec e
    rw [Int.le_antisymm (h2 k k1) (k2 m h1)]
def IntAt (ns : List Int) : Nat → Value → Prop := fun i v => i < ns.length ∧ ∃ t, v = .int (ns.getD i 0) t
theorem intAt_of {ns : List Int} {its : List Value} (r : Vals (ns.map V.int) its) {i : Nat} {v : Value} (h : its[i]? = some v) : IntAt ns i v := by
  have hi := r.ints
  have hl := r.length
  rw [List.length_map] at hl
  have hlt := (List.getElem?_eq_some_iff.mp h).1
  have hx : (ns.map V.int)[i]? = some (.int (ns.getD i 0)) := by
    rw [List.getElem?_map, List.getD_eq_getElem?_getD, List.getElem?_eq_getElem (by omega)]
    rfl
  obtain ⟨u, h1, h2⟩ := r.get hx
  rw [h] at h1
  cases h1
  exact ⟨by omega, h2⟩
theorem cmp_intAt {prog : Program} {wd : World} {A : Around} (ns : List Int) : CmpOf prog wd A .Gt (IntAt ns) (fun i j => decide (ns.getD i 0 > ns.getD j 0)) :=
  CmpOf.ints_gt (fun i => ns.getD i 0) (fun i v h => h.2)
theorem walks_imp {prog : Program} {w : World} {A : Around} {I : Addr} {fp wr : List Addr} {n : Nat} {P P' : Nat → Value → Prop} {St : Nat → Heap → Prop} (W : Walks prog w A I fp wr n P St) (h : ∀ i v, P i v → P' i v) : Walks prog w A I fp wr n P' St where
  sub := W.sub
  frame := W.frame
  item := fun i s Q E hi st hQ => W.item i s Q E hi st fun v h' tk hp => hQ v h' tk (h i v hp)
  done := W.done
  self := W.self
/-- max(t, default=d) of a tuple or a list of ints -/
def rMaxD (K : PySem.W.Frag) (d : Int) : List V → List V → Hp → VK → Prop := fun vs zs H Q => ∃ (a : Addr) (ns : List Int), vs = [V.ref a] ∧ zs = [V.int d] ∧ (SqT K H a (ns.map V.int) ∨ SqL K H a (ns.map V.int)) ∧ Q (.int (maxIx ns d)) H
theorem maxIx_arg {ns : List Int} {n : Nat} (d : Int) (h : ns.length = n + 1) : maxIx ns d = ns.getD (argBest (fun i j => decide (ns.getD i 0 > ns.getD j 0)) n) 0 := by
  obtain ⟨h1, h2⟩ := argMax ns n (by omega)
  unfold maxIx
  rw [maxI_is h1 fun y hy => ?_]
  · rfl
  · obtain ⟨j, hj, rfl⟩ := List.mem_iff_getElem.mp hy
    have := h2 j (by omega)
    rw [List.getD_eq_getElem?_getD, List.getElem?_eq_getElem hj] at this
    exact this
theorem cr_maxD (hc : X.calm = true) (d : Int) : CallRK X (.builtin "max") [Str.ofString "default"] (rMaxD X.K d) := by
  intro pins s σ H xs zs us ws Q I r1 r2 h
  obtain ⟨a, ns, rfl, rfl, hs, q⟩ := h
  rw [Vals.ref1 r1]
  obtain ⟨dv, rfl, dt, rfl⟩ : ∃ dv, ws = [dv] ∧ ∃ t, dv = .int d t := by
    cases r2 with
    | cons r rr =>
      cases rr
      obtain ⟨t, rfl⟩ := r
      exact ⟨_, rfl, t, rfl⟩
  have hh : X.A.handled = none := I.ok.hd hc
  have fin : ∀ (n : Nat) (its : List Value) (h' : Heap) (tk : Nat) (s2 : Shared) (v : Value), Vals (ns.map V.int) its → its.length = n → (∀ b o, s.heap.get? b = some o → h'.get? b = some o) →
      ((0 < n ∧ IntAt ns (argBest (fun i j => decide (ns.getD i 0 > ns.getD j 0)) (n - 1)) v) ∨ (n = 0 ∧ v = .int d dt)) → EP X pins σ Q v { s with heap := h', toks := tk } := by
    intro n its h' tk s2 v rv hn hk hv
    have hl := rv.length
    rw [List.length_map] at hl
    rcases hv with ⟨h0, h1⟩ | ⟨h0, rfl⟩
    · obtain ⟨_, t, rfl⟩ := h1
      refine ⟨.int (maxIx ns d), H, I.kept hk, ?_, q⟩
      rw [maxIx_arg (n := n - 1) d (by omega)]
      exact ⟨t, rfl⟩
    · have : ns = [] := List.length_eq_zero_iff.mp (by omega)
      subst this
      exact ⟨.int d, H, I.kept hk, ⟨dt, rfl⟩, q⟩
  rcases hs with hs | hs
  · obtain ⟨its, rv, pt, hz⟩ := I.tuple hs
    have pt : s.heap.IsTuple a its.toArray := pt
    have hne : a ≠ s.heap.objs.size := fun e => by
      obtain ⟨o, h1, _⟩ := pt
      exact Nat.lt_irrefl _ (e ▸ Heap.lt_size h1)
    refine max_default (wpAny_pyIter_tuple pt ⟨_, _, _, _, _, _, _, rfl, walks_imp (Walks.tuple (A := X.A.in1) hh s.heap.objs.size a hne its.toArray) (fun i v hv => intAt_of rv (by simpa using hv)), ⟨⟨_, Heap.get?_push_size _ rfl, rfl, rfl⟩, pt.push _⟩, fun b hb => ?_, cmp_intAt ns, fun v h' tk hv hk => ?_⟩)
    · simp only [List.mem_cons, List.not_mem_nil, or_false] at hb
      rcases hb with e | e
      · rw [e]
        exact Heap.lt_size (Heap.get?_push_size _ rfl)
      · rw [e]
        obtain ⟨o, h1, _⟩ := pt
        exact Heap.lt_size (Heap.get?_push_of_some _ h1)
    · exact fin its.toArray.size its h' tk s v rv (by simp) (fun b o e => hk b o (fun hm => Nat.ne_of_lt (Heap.lt_size e) (List.mem_singleton.mp hm)) (Heap.get?_push_of_some _ e)) hv
  · obtain ⟨its, rv, pt, hz⟩ := I.list hs
    have pt : s.heap.IsList a its.toArray := pt.isList
    have hne : a ≠ s.heap.objs.size := fun e => by
      obtain ⟨o, h1, _⟩ := pt
      exact Nat.lt_irrefl _ (e ▸ Heap.lt_size h1)
    refine max_default (wpAny_pyIter_list pt ⟨_, _, _, _, _, _, _, rfl, walks_imp (Walks.list (A := X.A.in1) hh s.heap.objs.size a hne its.toArray) (fun i v hv => intAt_of rv (by simpa using hv)), ⟨⟨_, Heap.get?_push_size _ rfl, rfl, rfl⟩, pt.push _⟩, fun b hb => ?_, cmp_intAt ns, fun v h' tk hv hk => ?_⟩)
    · simp only [List.mem_cons, List.not_mem_nil, or_false] at hb
      rcases hb with e | e
      · rw [e]
        exact Heap.lt_size (Heap.get?_push_size _ rfl)
      · rw [e]
        obtain ⟨o, h1, _⟩ := pt
        exact Heap.lt_size (Heap.get?_push_of_some _ h1)
    · exact fin its.toArray.size its h' tk s v rv (by simp) (fun b o e => hk b o (fun hm => Nat.ne_of_lt (Heap.lt_size e) (List.mem_singleton.mp hm)) (Heap.get?_push_of_some _ e)) hv
def numsOfD : D → Option (List Int)
  | .tup ds => intsOf ds
  | .lst ds => intsOf ds
  | .fl ds => intsOf ds
  | _ => none
def oMaxD (k : Int) (d : D) : Option D := (numsOfD d).map fun ns => .int (maxIx ns k)
theorem ve_maxD {kp : Pos} {jj} {k : Int} (hc : X.calm = true) (hg : Gl X "max") (hm : X.mg "max" = none) (ha : VO w X e f) (he : starEach [e] X.env = (false, eval e X.env) :: starEach [] X.env := by rfl)
    (he2 : backTo pos (starEach [e] X.env) = (false, eval e X.env) :: backTo pos (starEach [] X.env) := by rfl) (hpl : (backTo pos (starEach [e] X.env)).any (·.1) = false := by rfl)
    (hall : (backToKw pos (keywordEach [⟨some "default", .Constant (.int k) jj p, kp⟩] X.env)).all (·.1.isSome) = true := by rfl) (hnone : (backToKw pos (keywordEach [⟨some "default", .Constant (.int k) jj p, kp⟩] X.env)).any (·.1.isNone) = false := by rfl)
    (hks : (backToKw pos (keywordEach [⟨some "default", .Constant (.int k) jj p, kp⟩] X.env)).filterMap (·.1) = [Str.ofString "default"] := by rfl) {p' : Pos} :
    VE w X (.Call (.Name "max" p') [e] [⟨some "default", .Constant (.int k) jj p, kp⟩] pos) (e1o (oMaxD k) f) := by
  refine PE.imp (pe_callBK (cr_maxD hc k) hg hm (by decide +kernel) (vo_cons ha vo_nil he) (pk_cons pe_int pk_nil) (by decide) (by decide) he2 hpl hall hnone hks) fun σ H Q ⟨ρ, G, z, r, hf, q⟩ => ?_
  obtain ⟨d, e1, hf⟩ := bind_some2 hf
  obtain ⟨ns, e2, rfl⟩ := map_some2 hf
  refine ⟨ρ, G, [d], r, by unfold aCons; rw [e1]; rfl, fun vs H1 G1 g1 z1 => ?_⟩
  obtain ⟨v, rfl, h1⟩ := obsl1 z1
  have done := q (.int (maxIx ns k)) H1 G1 g1 mk_int
  unfold numsOfD at e2
  split at e2
  · rename_i ds
    obtain ⟨a, vs, rfl, h2, h3⟩ := obs_tup h1
    rw [intsOf_some e2] at h3
    rw [dens_ints h3] at h2
    exact ⟨a, ns, rfl, rfl, .inl (same_seqT g1.sub h2.sq), done⟩
  · rename_i ds
    obtain ⟨a, rfl, h2⟩ := seqInts (ns := ns) g1.sub h1 (by show intsOf _ = _; exact e2)
    exact ⟨a, ns, rfl, rfl, .inr h2, done⟩
  · rename_i ds
    obtain ⟨a, rfl, h2⟩ := seqInts (ns := ns) g1.sub h1 (by show intsOf _ = _; exact e2)
    exact ⟨a, ns, rfl, rfl, .inr h2, done⟩
  · cases e2
end
end Fw

/-! FwA: what the defs of a class of the text are to have. -/
namespace Fw
open PySem PySem.Spec PyProof.Rows L2
structure AtI (K : PySem.W.Frag) (mg : Str → Option Value) (C : Addr) (x qual : Str) (st : Stmt) : Prop where
  ex : ∃ (f : Addr) (fd : FuncData), mg x = some (.ref C) ∧ Mk K C f ∧ Fun K "__init__" qual st f fd
structure AtP (K : PySem.W.Frag) (C : Addr) (fn qual : Str) (st : Stmt) : Prop where
  ex : ∃ (p g : Addr) (fd : FuncData), PropOf K C fn p g ∧ Fun K fn qual st g fd
structure AtM (K : PySem.W.Frag) (C : Addr) (m qual : Str) (st : Stmt) : Prop where
  ex : ∃ (f : Addr) (fd : FuncData), Meth K C m f ∧ Fun K m qual st f fd
section
variable {P : Program} {wd : World} {K : PySem.W.Frag} {mg : Str → Option Value} {base : Heap} {cl : Nat → ClsT} {x fn m qual : Str} {st : Stmt} {N ps : List Str} {k c : Nat}
theorem mk_of {F : Sf} (a : AtI K mg (cl c).addr x qual st) (S : FnScope N ps (defScope st)) (hp : 0 < ps.length) (hb : ∀ f fd, Fun K "__init__" qual st f fd → Binds K fd ps [])
    (body : ∀ (f : Addr) (cdv : Value) (A : Around) (outer : List PySem.Env) (s : Shared) (H : Hp) (E : XK) (G0 H0 : Hp) (sf : Addr), Room k (A.deeper (envOfC qual (defScope st) s.heap.objs.size f cdv)) →
      VSs ⟨cl, G0, H0, sf⟩ (XX P wd K mg base N qual (defScope st) f cdv A outer s H E) (defBody st) F) : MkD P wd K mg base cl (k + 1) c x (ps.length - 1) (runI c N.length F) := by
  obtain ⟨f, fd, e, M, Fn⟩ := a.ex
  exact ⟨f, fd, ps, e, M, hb f fd Fn, init_ok Fn S hp fun cdv A outer s H E G0 H0 sf hr => body f cdv A outer s H E G0 H0 sf hr⟩
theorem prop_of {F : Sf} (a : AtP K (cl c).addr fn qual st) (S : FnScope N ps (defScope st)) (hp : ps.length = 1) (hb : ∀ f fd, Fun K fn qual st f fd → Binds K fd ps [])
    (body : ∀ (f : Addr) (cdv : Value) (A : Around) (outer : List PySem.Env) (s : Shared) (H : Hp) (E : XK) (G0 H0 : Hp) (sf : Addr), Room k (A.deeper (envOfC qual (defScope st) s.heap.objs.size f cdv)) →
      VSs ⟨cl, G0, H0, sf⟩ (XX P wd K mg base N qual (defScope st) f cdv A outer s H E) (defBody st) F) : PrD P wd K mg base cl (k + 1) c fn (runF N.length F) := by
  obtain ⟨p, g, fd, e, Fn⟩ := a.ex
  have z := fn_ok (P := P) (wd := wd) (mg := mg) (base := base) (cl := cl) Fn S fun cdv A outer s H E G0 H0 sf hr => body g cdv A outer s H E G0 H0 sf hr
  rw [hp] at z
  exact ⟨p, g, fd, ps, e, hb g fd Fn, z⟩
theorem meth_of {F : Sf} (a : AtM K (cl c).addr m qual st) (S : FnScope N ps (defScope st)) (hb : ∀ f fd, Fun K m qual st f fd → Binds K fd ps [])
    (body : ∀ (f : Addr) (cdv : Value) (A : Around) (outer : List PySem.Env) (s : Shared) (H : Hp) (E : XK) (G0 H0 : Hp) (sf : Addr), Room k (A.deeper (envOfC qual (defScope st) s.heap.objs.size f cdv)) →
      VSs ⟨cl, G0, H0, sf⟩ (XX P wd K mg base N qual (defScope st) f cdv A outer s H E) (defBody st) F) : MtD P wd K mg base cl (k + 1) c m ps.length (runF N.length F) := by
  obtain ⟨f, fd, M, Fn⟩ := a.ex
  exact ⟨f, fd, ps, M, hb f fd Fn, fn_ok Fn S fun cdv A outer s H E G0 H0 sf hr => body f cdv A outer s H E G0 H0 sf hr⟩
end
end Fw

/-! FwB: a law's promise. -/
namespace Fw
open PySem PySem.Spec PyProof.Rows L2
def spLaw (K : PySem.W.Frag) : Sp := fun vs H Q _ => ∃ (a : Addr) (ns : List Int), vs = [.ref a] ∧ SqL K H a (ns.map V.int) ∧ ns.length ≤ 63 ∧ ∀ H', Q (.bl true) H'
theorem dens_of_ints {K : PySem.W.Frag} {cl : Nat → ClsT} {H : Hp} : ∀ ns : List Int, Dens K cl H (ns.map D.int) (ns.map V.int)
  | [] => Dens.nil
  | _ :: r => Dens.cons mk_int (dens_of_ints r)
theorem law_spec {P : Program} {wd : World} {K : PySem.W.Frag} {mg : Str → Option Value} {base : Heap} {cl : Nat → ClsT} {k : Nat} {f : Addr} {fd : FuncData} {ps : List Str} {F : List D → Ret} (hF : ∀ ns : List Int, ns.length ≤ 63 → F [.fl (ns.map D.int)] = .ok (.bl true))
    (o : FnOk P wd K mg base CX0 k f fd ps (spF K cl 1 F)) : FnOk P wd K mg base CX0 k f fd ps (spLaw K) := by
  have key : ∀ vs H Q E, spLaw K vs H Q E → spF K cl 1 F vs H Q E := fun vs H Q E ⟨a, ns, e, hs, hl, q⟩ => by
    subst e
    refine ⟨H, [.fl (ns.map D.int)], Same.refl _, Dens.cons ?_ Dens.nil, rfl, ?_⟩
    · simp only [Den]
      exact ⟨a, _, rfl, hs, dens_of_ints ns⟩
    · rw [hF ns hl]
      intro v H' G' g z
      rw [den_bl z]
      exact q H'
  exact ⟨fun vs H Q E h => o.len vs H Q E (key _ _ _ _ h), fun A outer s H args us vs Q E hr he hb hv h => o.run A outer s H args us vs Q E hr he hb hv (key _ _ _ _ h)⟩
end Fw

/-! FwC: slices of any kind; the mirrors' values by simp; the shared defs of the laws. -/
namespace Fw
open PySem PySem.Spec PyProof.Rows L2
section
variable {X : Cx} {w : Wd} {e ea : Expr} {f : Ef} {pos : Pos}
theorem PE.or {t t' : TE} (h : PE X e t) (h' : PE X e t') : PE X e (fun σ H R => t σ H R ∨ t' σ H R) := ⟨fun pins s σ H R I q => q.elim (h.run pins s σ H R I) (h'.run pins s σ H R I)⟩
def eSlA (f : Ef) (l h : Env → Option (Option Int)) : Ef := fun ρ => match f ρ with
  | some (.lst ds) => fL (aSl f l h) ρ
  | some (.fl ds) => fL (aSl f l h) ρ
  | _ => eSl oSl f l h ρ
theorem ve_slA {lo hi : Option Expr} {pl ph : Env → Option (Option Int)} {p2 : Pos} (ha : VO w X ea f) (hl : VP w X lo pl) (hh : VP w X hi ph) : VE w X (.Subscript ea (.Slice lo hi none p2) pos) (eSlA f pl ph) :=
  PE.imp (PE.or (ofF (vf_sl ha hl hh)) (ve_sl ha hl hh)) fun σ H Q ⟨ρ, G, z, r, hf, q⟩ => by
    unfold eSlA at hf
    split at hf
    · exact .inl ⟨ρ, G, z, r, hf, q⟩
    · exact .inl ⟨ρ, G, z, r, hf, q⟩
    · exact .inr ⟨ρ, G, z, r, hf, q⟩
end
/-! ### values of mirrors by simp -/
def Cell.shd : Cell → Option D
  | .sh d => some d
  | _ => none
def Cell.obd : Cell → Option D
  | .own o => some o.toD
  | .sh d => some d
  | _ => none
@[simp] theorem shd_sh {d} : Cell.shd (.sh d) = some d := rfl
@[simp] theorem obd_sh {d} : Cell.obd (.sh d) = some d := rfl
@[simp] theorem obd_own {d} : Cell.obd (.own d) = some d.toD := rfl
@[simp] theorem toD_lst {d} : Ow.toD (.lst d) = .lst d := rfl
@[simp] theorem toD_obj {c d} : Ow.toD (.obj c d) = .ins c d := rfl
@[simp] theorem toD_dic {c d} : Ow.toD (.dic c d) = .dic c d := rfl
@[simp] theorem cellAt_z {c : Cell} {r : Env} : cellAt (c :: r) 0 = c := rfl
@[simp] theorem cellAt_s {c : Cell} {r : Env} {i : Nat} : cellAt (c :: r) (i + 1) = cellAt r i := rfl
@[simp] theorem eVar_x {i ρ} : eVar i ρ = (cellAt ρ i).shd := by
  unfold eVar
  cases cellAt ρ i <;> rfl
@[simp] theorem eOwn_x {i ρ} : eOwn i ρ = (cellAt ρ i).obd := by
  unfold eOwn
  cases cellAt ρ i <;> rfl
@[simp] theorem eC_x {d ρ} : eC d ρ = some d := rfl
@[simp] theorem eBin_x {o f g ρ} : eBin o f g ρ = (f ρ).bind fun a => (g ρ).bind fun b => o a b := rfl
@[simp] theorem aBin_x {o f g ρ} : aBin o f g ρ = (f ρ).bind fun a => (g ρ).bind fun b => o a b := rfl
@[simp] theorem e1o_x {o f ρ} : e1o o f ρ = (f ρ).bind o := rfl
@[simp] theorem aNil_x {ρ} : aNil ρ = some [] := rfl
@[simp] theorem aCons_x {f g ρ} : aCons f g ρ = (f ρ).bind fun d => (g ρ).map fun ds => d :: ds := rfl
@[simp] theorem eArgs_x {o f ρ} : eArgs o f ρ = (f ρ).bind o := rfl
@[simp] theorem aArgs_x {o f ρ} : aArgs o f ρ = (f ρ).bind o := rfl
@[simp] theorem eCall_x {F f ρ} : eCall F f ρ = (f ρ).bind fun ds => toD (F ds) := rfl
@[simp] theorem aCall_x {F f ρ} : aCall F f ρ = (f ρ).bind fun ds => toFr (F ds) := rfl
@[simp] theorem fL_x {f ρ} : fL f ρ = (f ρ).map D.lst := rfl
@[simp] theorem fW_x {f ρ} : fW f ρ = (f ρ).map Ow.toD := rfl
@[simp] theorem wL_x {f ρ} : wL f ρ = (f ρ).map Ow.lst := rfl
@[simp] theorem pNo_x {ρ} : pNo ρ = some none := rfl
@[simp] theorem pSome_x {f ρ} : pSome f ρ = (asI (f ρ)).map some := rfl
@[simp] theorem asI_x {i} : asI (some (.int i)) = some i := rfl
@[simp] theorem asB_x {b} : asB (some (.bl b)) = some b := rfl
@[simp] theorem tB1_x {f ρ} : tB1 f ρ = asB (f ρ) := rfl
@[simp] theorem toD_ok {d} : Fw.toD (.ok d) = some d := rfl
@[simp] theorem toD_fr {d} : Fw.toD (.fr d) = some d.toD := rfl
@[simp] theorem toFr_fr {d} : Fw.toFr (.fr d) = some d := rfl
@[simp] theorem tNotF_x {f ρ} : tNotF f ρ = (f ρ).map fun b => !b := rfl
@[simp] theorem tYesF_x {ρ} : tYesF ρ = some true := rfl
@[simp] theorem tAndF_x {f g ρ} : tAndF f g ρ = (f ρ).bind fun b => if b = true then g ρ else some false := by
  unfold tAndF
  cases f ρ with
  | none => rfl
  | some b => cases b <;> rfl
@[simp] theorem tOrF_x {f g ρ} : tOrF f g ρ = (f ρ).bind fun b => if b = true then some true else g ρ := by
  unfold tOrF
  cases f ρ with
  | none => rfl
  | some b => cases b <;> rfl
def asBd : Option D → Option Bool := asB
@[simp] theorem asBd_x {b} : asBd (some (.bl b)) = some b := rfl
@[simp] theorem eAnd_x {f g ρ} : eAnd f g ρ = (asBd (f ρ)).bind fun b => if b = true then g ρ else some (.bl false) := by
  unfold eAnd
  cases f ρ with
  | none => rfl
  | some d => cases d with
    | bl b => cases b <;> rfl
    | _ => rfl
@[simp] theorem eOr_x {f g ρ} : eOr f g ρ = (asBd (f ρ)).bind fun b => if b = true then some (.bl true) else g ρ := by
  unfold eOr
  cases f ρ with
  | none => rfl
  | some d => cases d with
    | bl b => cases b <;> rfl
    | _ => rfl
@[simp] theorem eIf_x {t f g ρ} : eIf t f g ρ = (t ρ).bind fun b => if b = true then f ρ else g ρ := by
  unfold eIf
  cases t ρ with
  | none => rfl
  | some b => cases b <;> rfl
@[simp] theorem tChain_x {o o' f g h ρ} : tChainF o o' f g h ρ = (f ρ).bind fun a => (g ρ).bind fun b => (asBd (o a b)).bind fun r => if r = true then (h ρ).bind fun c => o' b c else some (.bl false) := by
  unfold tChainF
  congr 1
  funext a
  congr 1
  funext b
  cases o a b with
  | none => rfl
  | some d => cases d with
    | bl b => cases b <;> rfl
    | _ => rfl
@[simp] theorem oNot_x {b} : oNot (.bl b) = some (.bl (!b)) := rfl
@[simp] theorem eTup_x {f ρ} : eTup f ρ = (f ρ).bind fun ds => if ds.length ≤ 16777216 then some (.tup ds) else none := rfl
@[simp] theorem aLst_x {f ρ} : aLst f ρ = (f ρ).bind fun ds => if ds.length ≤ 16777216 then some ds else none := rfl
/-! operations -/
@[simp] theorem oAdd_int {i j} : oAdd (.int i) (.int j) = some (.int (i + j)) := rfl
@[simp] theorem oAdd_lst {i j} : oAdd (.lst i) (.lst j) = if i.length + j.length ≤ 16777216 then some (.lst (i ++ j)) else none := rfl
@[simp] theorem oAdd_tup {i j} : oAdd (.tup i) (.tup j) = if i.length + j.length ≤ 16777216 then some (.tup (i ++ j)) else none := rfl
@[simp] theorem oCatL_x {i j} : oCatL (.lst i) (.lst j) = if i.length + j.length ≤ 16777216 then some (i ++ j) else none := rfl
@[simp] theorem oSub_int {i j} : oSub (.int i) (.int j) = some (.int (i - j)) := rfl
theorem oMod_int {i j} : oMod (.int i) (.int j) = if 0 < j then some (.int (i % j)) else none := by
  unfold oMod oInt
  simp
theorem oFdiv_int {i j} : oFdiv (.int i) (.int j) = if 0 < j ∧ j < 1073741824 then some (.int (i / j)) else none := by
  unfold oFdiv oInt
  simp
@[simp] theorem oPow_int {i j} : oPow (.int i) (.int j) = if 0 ≤ j ∧ j ≤ 1000000 ∧ i.natAbs < 18446744073709551616 then some (.int (i ^ j.toNat)) else none := by
  unfold oPow oInt
  simp
theorem oMul_int {i j} : oMul (.int i) (.int j) = if mulC i j = true then some (.int (i * j)) else none := rfl
theorem mulC_a {i j : Int} (h : -18446744073709551616 < i ∧ i < 18446744073709551616) : mulC i j = true := decide_eq_true (.inl h)
theorem mulC_b {i j : Int} (h : -18446744073709551616 < j ∧ j < 18446744073709551616) : mulC i j = true := decide_eq_true (.inr h)
@[simp] theorem oMul_a {i j : Int} (h : -18446744073709551616 < i ∧ i < 18446744073709551616) : oMul (.int i) (.int j) = some (.int (i * j)) := by rw [oMul_int, if_pos (mulC_a h)]
@[simp] theorem oMul_b {i j : Int} (h : -18446744073709551616 < j ∧ j < 18446744073709551616) : oMul (.int i) (.int j) = some (.int (i * j)) := by rw [oMul_int, if_pos (mulC_b h)]
@[simp] theorem oMod_p {i j : Int} (h : 0 < j) : oMod (.int i) (.int j) = some (.int (i % j)) := by rw [oMod_int, if_pos h]
@[simp] theorem oFdiv_p {i j : Int} (h : 0 < j ∧ j < 1073741824) : oFdiv (.int i) (.int j) = some (.int (i / j)) := by rw [oFdiv_int, if_pos h]
@[simp] theorem oLt_int {i j} : oLt (.int i) (.int j) = some (.bl (decide (i < j))) := rfl
@[simp] theorem oLe_int {i j} : oLe (.int i) (.int j) = some (.bl (decide (i ≤ j))) := rfl
@[simp] theorem oGt_int {i j} : oGt (.int i) (.int j) = some (.bl (decide (j < i))) := rfl
@[simp] theorem oGe_int {i j} : oGe (.int i) (.int j) = some (.bl (decide (j ≤ i))) := rfl
@[simp] theorem oEq_int {i j} : oEq (.int i) (.int j) = some (.bl (decide (i = j))) := rfl
@[simp] theorem oNe_int {i j} : oNe (.int i) (.int j) = some (.bl (!decide (i = j))) := rfl
@[simp] theorem oEq_bl {i j} : oEq (.bl i) (.bl j) = some (.bl (decide (i = j))) := rfl
@[simp] theorem oNe_bl {i j} : oNe (.bl i) (.bl j) = some (.bl (!decide (i = j))) := rfl
@[simp] theorem oIsN_x {d} : oIsN d .non = some (.bl (isNonD d)) := rfl
@[simp] theorem oNotN_x {d} : oNotN d .non = some (.bl (!isNonD d)) := rfl
@[simp] theorem isNon_1 : isNonD .non = true := rfl
@[simp] theorem isNon_2 {i} : isNonD (.int i) = false := rfl
@[simp] theorem isNon_3 {i} : isNonD (.tup i) = false := rfl
@[simp] theorem isNon_4 {i} : isNonD (.lst i) = false := rfl
@[simp] theorem isNon_5 {i j} : isNonD (.ins i j) = false := rfl
@[simp] theorem isNon_6 {i} : isNonD (.bl i) = false := rfl
@[simp] theorem items_lst {d} : itemsOf (.lst d) = some d := rfl
@[simp] theorem items_fl {d} : itemsOf (.fl d) = some d := rfl
@[simp] theorem items_tup {d} : itemsOf (.tup d) = some d := rfl
@[simp] theorem seq_lst {d} : seqOf (.lst d) = some d := rfl
@[simp] theorem seq_fl {d} : seqOf (.fl d) = some d := rfl
@[simp] theorem oIx_lst {d i} : oIx (.lst d) (.int i) = ixD d i := rfl
@[simp] theorem oIx_fl {d i} : oIx (.fl d) (.int i) = ixD d i := rfl
@[simp] theorem oIx_tup {d i} : oIx (.tup d) (.int i) = ixD d i := rfl
theorem ixD_nat {d : List D} {i : Nat} : ixD d (i : Int) = d[i]? := by
  unfold ixD
  rw [if_pos (by omega)]
  rfl
@[simp] theorem ixD_zero {d : List D} : ixD d 0 = d[0]? := rfl
@[simp] theorem ixD_lit {d : List D} {i : Nat} : ixD d (no_index (OfNat.ofNat i : Int)) = d[i]? := ixD_nat (i := i)
theorem ixD_pos {d : List D} {i : Int} (h : 0 ≤ i) : ixD d i = d[i.toNat]? := if_pos h
@[simp] theorem oLen_lst {d} : oLen [.lst d] = some (.int d.length) := rfl
@[simp] theorem oLen_fl {d} : oLen [.fl d] = some (.int d.length) := rfl
@[simp] theorem oLen_tup {d} : oLen [.tup d] = some (.int d.length) := rfl
@[simp] theorem oToInt_int {i} : oToInt [.int i] = some (.int i) := rfl
@[simp] theorem oToInt_bl {i} : oToInt [.bl i] = some (.int (if i then 1 else 0)) := rfl
@[simp] theorem oMax2_x {i j} : oMax2 [.int i, .int j] = some (.int (max i j)) := rfl
@[simp] theorem oMin2_x {i j} : oMin2 [.int i, .int j] = some (.int (min i j)) := rfl
@[simp] theorem oList_x {d} : oList [d] = itemsOf d := rfl
@[simp] theorem oTuple_x {d} : oTuple [d] = (itemsOf d).map D.tup := rfl
@[simp] theorem oSl_tup {d a b} : oSl (.tup d) a b = some (.tup (cutD d a b)) := rfl
@[simp] theorem eSl_x {o f l h ρ} : eSl o f l h ρ = (f ρ).bind fun d => (l ρ).bind fun a => (h ρ).bind fun b => o d a b := rfl
def slD (d : D) (a b : Option Int) : Option D := match d with
  | .lst ds => some (.lst (cutD ds a b))
  | .fl ds => some (.lst (cutD ds a b))
  | d => oSl d a b
@[simp] theorem slD_lst {d a b} : slD (.lst d) a b = some (.lst (cutD d a b)) := rfl
@[simp] theorem slD_fl {d a b} : slD (.fl d) a b = some (.lst (cutD d a b)) := rfl
@[simp] theorem slD_tup {d a b} : slD (.tup d) a b = some (.tup (cutD d a b)) := rfl
@[simp] theorem eSlA_x {f l h ρ} : eSlA f l h ρ = (f ρ).bind fun d => (l ρ).bind fun a => (h ρ).bind fun b => slD d a b := by
  unfold eSlA
  split
  · rename_i ds e
    rw [fL_x]
    unfold aSl
    rw [e]
    dsimp only
    rw [Option.bind_some]
    cases l ρ with
    | none => rfl
    | some a => cases h ρ <;> rfl
  · rename_i ds e
    rw [fL_x]
    unfold aSl
    rw [e]
    dsimp only
    rw [Option.bind_some]
    cases l ρ with
    | none => rfl
    | some a => cases h ρ <;> rfl
  · rename_i h1 h2
    rw [eSl_x]
    cases e : f ρ with
    | none => rfl
    | some d =>
      rw [Option.bind_some, Option.bind_some]
      cases d with
      | lst ds => exact (h1 ds e).elim
      | fl ds => exact (h2 ds e).elim
      | _ => rfl
@[simp] theorem aSl_x {f l h ρ} : aSl f l h ρ = (f ρ).bind fun d => (seqOf d).bind fun ds => (l ρ).bind fun a => (h ρ).map fun b => cutD ds a b := by
  unfold aSl
  cases f ρ with
  | none => rfl
  | some d => cases d <;> rfl
@[simp] theorem oIsi_x {d b} : oIsi [d, .ty b] = ((tyName d).bind fun a => isTy a b).map D.bl := rfl
@[simp] theorem oIsi_t {d bs} : oIsi [d, .tup bs] = ((tyName d).bind fun a => (tysOf bs).bind fun bs => isAny a bs).map D.bl := rfl
@[simp] theorem tn1 {i} : tyName (.int i) = some "int" := rfl
@[simp] theorem tn2 {i} : tyName (.bl i) = some "bool" := rfl
@[simp] theorem tn3 {i} : tyName (.tup i) = some "tuple" := rfl
@[simp] theorem tn4 {i} : tyName (.lst i) = some "list" := rfl
@[simp] theorem tn5 {i} : tyName (.str i) = some "str" := rfl
@[simp] theorem tn6 : tyName .non = some "NoneType" := rfl
@[simp] theorem it1 : isTy "int" "int" = some true := by decide
@[simp] theorem it2 : isTy "int" "bool" = some false := by decide
@[simp] theorem it3 : isTy "int" "tuple" = some false := by decide
@[simp] theorem it4 : isTy "int" "list" = some false := by decide
@[simp] theorem it5 : isTy "int" "str" = some false := by decide
@[simp] theorem it6 : isTy "bool" "int" = some true := by decide
@[simp] theorem it7 : isTy "bool" "bool" = some true := by decide
@[simp] theorem it8 : isTy "tuple" "tuple" = some true := by decide
@[simp] theorem it9 : isTy "tuple" "list" = some false := by decide
@[simp] theorem it10 : isTy "tuple" "int" = some false := by decide
@[simp] theorem it11 : isTy "list" "list" = some true := by decide
@[simp] theorem it12 : isTy "list" "tuple" = some false := by decide
@[simp] theorem it13 : isTy "list" "int" = some false := by decide
@[simp] theorem it14 : isTy "str" "str" = some true := by decide
@[simp] theorem it15 : isTy "NoneType" "int" = some false := by decide
@[simp] theorem it16 : isTy "bool" "tuple" = some false := by decide
@[simp] theorem it17 : isTy "NoneType" "tuple" = some false := by decide
@[simp] theorem it18 : isTy "NoneType" "list" = some false := by decide
@[simp] theorem ia1 : isAny "int" ["list", "tuple"] = some false := by decide
@[simp] theorem ia2 : isAny "tuple" ["list", "tuple"] = some true := by decide
@[simp] theorem ia3 : isAny "list" ["list", "tuple"] = some true := by decide
@[simp] theorem ia4 : isAny "NoneType" ["list", "tuple"] = some false := by decide
@[simp] theorem ia5 : isAny "bool" ["list", "tuple"] = some false := by decide
@[simp] theorem ia6 : isAny "str" ["list", "tuple"] = some false := by decide
@[simp] theorem tys0 : tysOf [] = some [] := rfl
@[simp] theorem tys1 {b r} : tysOf (.ty b :: r) = (tysOf r).map fun l => b :: l := rfl
/-! statements -/
def Out.next : Out → Sf → Out
  | .nx ρ, F => F ρ
  | o, _ => o
@[simp] theorem next_nx {ρ F} : Out.next (.nx ρ) F = F ρ := rfl
@[simp] theorem next_bk {ρ F} : Out.next (.bk ρ) F = .bk ρ := rfl
@[simp] theorem next_ct {ρ F} : Out.next (.ct ρ) F = .ct ρ := rfl
@[simp] theorem next_rt {ρ F} : Out.next (.rt ρ) F = .rt ρ := rfl
@[simp] theorem next_rf {ρ F} : Out.next (.rf ρ) F = .rf ρ := rfl
@[simp] theorem next_stuck {F} : Out.next .stuck F = .stuck := rfl
@[simp] theorem sSeq_x {F G ρ} : sSeq F G ρ = (F ρ).next G := by
  unfold sSeq
  cases F ρ <;> rfl
@[simp] theorem next_ite {p : Prop} [Decidable p] {a b : Out} {F} : Out.next (if p then a else b) F = if p then a.next F else b.next F := by
  split <;> rfl
def opt {α : Type} (o : Option α) (f : α → Out) : Out := match o with
  | some a => f a
  | none => .stuck
@[simp] theorem opt_some {α : Type} {a : α} {f : α → Out} : opt (some a) f = f a := rfl
@[simp] theorem opt_ite {α : Type} {p : Prop} [Decidable p] {a b : Option α} {f : α → Out} : opt (if p then a else b) f = if p then opt a f else opt b f := by
  split <;> rfl
@[simp] theorem sNext_x {ρ} : sNext ρ = .nx ρ := rfl
@[simp] theorem sFrz_x {i F ρ} : sFrz i F ρ = F (frz i ρ) := rfl
@[simp] theorem sBreak_x {ρ} : sBreak ρ = .bk ρ := rfl
@[simp] theorem sCont_x {ρ} : sCont ρ = .ct ρ := rfl
@[simp] theorem sSet_x {i f ρ} : sSet i f ρ = opt (f ρ) fun d => .nx (ρ.set i (.sh d)) := by
  unfold sSet
  cases f ρ <;> rfl
@[simp] theorem sSetF_x {i f ρ} : sSetF i f ρ = opt (f ρ) fun d => .nx (ρ.set i (.own (.lst d))) := by
  unfold sSetF
  cases f ρ <;> rfl
def setN (i : Nat) (ρ : Env) : Ow → Out
  | .lst ds => .nx (ρ.set i (.own (.lst ds)))
  | .dic ks ds => .nx (ρ.set i (.own (.dic ks ds)))
  | _ => .stuck
@[simp] theorem setN_lst {i ρ ds} : setN i ρ (.lst ds) = .nx (ρ.set i (.own (.lst ds))) := rfl
@[simp] theorem sSetN_x {i f ρ} : sSetN i f ρ = opt (f ρ) (setN i ρ) := by
  unfold sSetN
  cases f ρ with
  | none => rfl
  | some o => cases o <;> rfl
@[simp] theorem sDrop_x {f ρ} : sDrop f ρ = opt (f ρ) fun _ => .nx ρ := by
  unfold sDrop
  cases f ρ <;> rfl
@[simp] theorem sRet_x {f ρ} : sRet f ρ = opt (f ρ) .rt := by
  unfold sRet
  cases f ρ <;> rfl
@[simp] theorem sRetF_x {f ρ} : sRetF f ρ = opt (f ρ) fun d => .rf (.lst d) := by
  unfold sRetF
  cases f ρ <;> rfl
@[simp] theorem sRetO_x {f ρ} : sRetO f ρ = opt (f ρ) .rf := by
  unfold sRetO
  cases f ρ <;> rfl
@[simp] theorem sRetN_x {ρ} : sRetN ρ = .rt .non := rfl
def retV : Cell → Out
  | .own o => .rf o
  | .sh d => .rt d
  | .no => .stuck
@[simp] theorem retV_own {o} : retV (.own o) = .rf o := rfl
@[simp] theorem retV_sh {o} : retV (.sh o) = .rt o := rfl
@[simp] theorem sRetV_x {i ρ} : sRetV i ρ = retV (cellAt ρ i) := by
  unfold sRetV
  cases cellAt ρ i <;> rfl
@[simp] theorem sIf_x {t F G ρ} : sIf t F G ρ = opt (t ρ) fun b => if b = true then F ρ else G ρ := by
  unfold sIf
  cases t ρ with
  | none => rfl
  | some b => cases b <;> rfl
def frzC : Cell → Cell
  | .own o => .sh o.toD
  | c => c
@[simp] theorem frzC_own {o} : frzC (.own o) = .sh o.toD := rfl
@[simp] theorem frzC_sh {o} : frzC (.sh o) = .sh o := rfl
@[simp] theorem frzC_no : frzC .no = .no := rfl
@[simp] theorem frz_z {c : Cell} {r : Env} : frz 0 (c :: r) = frzC c :: r := by
  unfold frz
  cases c <;> rfl
@[simp] theorem frz_s {i} {c : Cell} {r : Env} : frz (i + 1) (c :: r) = c :: frz i r := by
  unfold frz
  rw [cellAt_s]
  cases cellAt r i <;> rfl
def app (ρ : Env) (i : Nat) (c : Cell) (d : D) : Out := match c with
  | .own (.lst ds) => if ds.length < 16777216 then .nx (ρ.set i (.own (.lst (ds ++ [d])))) else .stuck
  | _ => .stuck
@[simp] theorem app_x {ρ i ds d} : app ρ i (.own (.lst ds)) d = if ds.length < 16777216 then .nx (ρ.set i (.own (.lst (ds ++ [d])))) else .stuck := rfl
@[simp] theorem sApp_x {i f ρ} : sApp i f ρ = opt (f ρ) (app ρ i (cellAt ρ i)) := by
  unfold sApp
  cases f ρ with
  | none =>
    rw [show opt none (app ρ i (cellAt ρ i)) = .stuck from rfl]
    split <;> simp_all
  | some d =>
    rw [opt_some]
    unfold app
    cases cellAt ρ i with
    | own o => cases o <;> rfl
    | _ => rfl
def augI (ρ : Env) (i : Nat) (o : Int → Int → Int) (c : Cell) : D → Out
  | .int b => match c with
    | .sh (.int a) => .nx (ρ.set i (.sh (.int (o a b))))
    | _ => .stuck
  | _ => .stuck
@[simp] theorem augI_x {ρ i o a b} : augI ρ i o (.sh (.int a)) (.int b) = .nx (ρ.set i (.sh (.int (o a b)))) := rfl
@[simp] theorem sAugI_x {o i f ρ} : sAugI o i f ρ = opt (f ρ) (augI ρ i o (cellAt ρ i)) := by
  unfold sAugI
  cases f ρ with
  | none =>
    rw [show opt none (augI ρ i o (cellAt ρ i)) = .stuck from rfl]
    split <;> simp_all
  | some d =>
    rw [opt_some]
    unfold augI
    cases d with
    | int b =>
      cases cellAt ρ i with
      | sh e => cases e <;> rfl
      | _ => rfl
    | _ =>
      dsimp only
      split <;> simp_all
@[simp] theorem sFor_x {f t F ρ} : sFor f t F ρ = opt (f ρ) fun ds => loopF t F ds ρ := by
  unfold sFor
  cases f ρ <;> rfl
@[simp] theorem put_nm {i d ρ} : put (.nm i) d ρ = some (ρ.set i (.sh d)) := rfl
@[simp] theorem put_tp {is ds ρ} : put (.tp is) (.tup ds) ρ = putL is ds ρ := rfl
@[simp] theorem putL_nil {ρ} : putL [] [] ρ = some ρ := rfl
@[simp] theorem putL_cons {i is d ds ρ} : putL (i :: is) (d :: ds) ρ = putL is ds (ρ.set i (.sh d)) := rfl
@[simp] theorem sUnp_x {t f ρ} : sUnp t f ρ = opt ((f ρ).bind fun d => put t d ρ) .nx := by
  unfold sUnp
  cases (f ρ).bind fun d => put t d ρ <;> rfl
@[simp] theorem loop_nil {t F ρ} : loopF t F [] ρ = .nx ρ := rfl
def Out.turn : Out → Sf → Out
  | .nx ρ, F => F ρ
  | .ct ρ, F => F ρ
  | .bk ρ, _ => .nx ρ
  | o, _ => o
theorem loop_cons {t F d ds ρ} : loopF t F (d :: ds) ρ = opt (put t d ρ) fun ρ1 => (F ρ1).turn (loopF t F ds) := by
  show (match put t d ρ with | none => Out.stuck | some ρ1 => _) = _
  cases put t d ρ with
  | none => rfl
  | some ρ1 =>
    rw [opt_some]
    dsimp only
    cases F ρ1 <;> rfl
@[simp] theorem turn_nx {ρ F} : Out.turn (.nx ρ) F = F ρ := rfl
@[simp] theorem turn_ct {ρ F} : Out.turn (.ct ρ) F = F ρ := rfl
@[simp] theorem turn_bk {ρ F} : Out.turn (.bk ρ) F = .nx ρ := rfl
@[simp] theorem turn_rt {ρ F} : Out.turn (.rt ρ) F = .rt ρ := rfl
@[irreducible] def RngOk (j : Int) : Prop := j < 4611686018427387904 ∧ -4611686018427387904 ≤ j
theorem rngOk {j : Int} (h : -1000000000 ≤ j ∧ j ≤ 1000000000) : RngOk j := by
  unfold RngOk
  omega
open Classical in
noncomputable def rng1 : List D → Option (List D)
  | [.int j] => if RngOk j then some (rangeD 0 j.toNat) else none
  | _ => none
open Classical in
noncomputable def rng2 : List D → Option (List D)
  | [.int i, .int j] => if RngOk j ∧ RngOk i then some (rangeD i (j - i).toNat) else none
  | _ => none
theorem rng1_x {j : Int} (h : -1000000000 ≤ j ∧ j ≤ 1000000000) : rng1 [.int j] = some (rangeD 0 j.toNat) := if_pos (rngOk h)
theorem rng2_x {i j : Int} (h : (-1000000000 ≤ j ∧ j ≤ 1000000000) ∧ -1000000000 ≤ i ∧ i ≤ 1000000000) : rng2 [.int i, .int j] = some (rangeD i (j - i).toNat) := if_pos ⟨rngOk h.1, rngOk h.2⟩
@[simp] theorem aRng1_x {f ρ} : aRng1 f ρ = (f ρ).bind rng1 := by
  unfold aRng1
  cases f ρ with
  | none => rfl
  | some ds =>
    show _ = rng1 ds
    unfold rng1 RngOk
    split <;> simp_all
@[simp] theorem aRng2_x {f ρ} : aRng2 f ρ = (f ρ).bind rng2 := by
  unfold aRng2
  cases f ρ with
  | none => rfl
  | some ds =>
    show _ = rng2 ds
    unfold rng2 RngOk
    split <;> simp_all
@[simp] theorem aItems_x {f ρ} : aItems f ρ = (f ρ).bind itemsOf := rfl
@[simp] theorem aComp_x {fs tg t f ρ} : aComp fs tg t f ρ = (fs ρ).bind fun ds => if ds.length ≤ 16777216 then compL tg t f ds (wipeR ρ tg.ixs) else none := rfl
@[simp] theorem wipe_nil {ρ} : wipeR ρ [] = ρ := rfl
@[simp] theorem wipe_cons {ρ v vs} : wipeR ρ (v :: vs) = (wipeR ρ vs).set v .no := rfl
@[simp] theorem ixs_nm {i} : (Tg.nm i).ixs = [i] := rfl
@[simp] theorem ixs_tp {i} : (Tg.tp i).ixs = i := rfl
@[simp] theorem retOf_rt {d} : retOf (.rt d) = .ok d := rfl
@[simp] theorem retOf_rf {d} : retOf (.rf d) = .fr d := rfl
@[simp] theorem retOf_nx {d} : retOf (.nx d) = .ok .non := rfl
@[simp] theorem retOf_ite {p : Prop} [Decidable p] {a b : Out} : retOf (if p then a else b) = if p then retOf a else retOf b := by
  split <;> rfl
theorem startR_x {n ds} : startR n ds = ds.map Cell.sh ++ List.replicate (n - ds.length) Cell.no := rfl
/-! loops and comprehensions by what every turn does -/
theorem loop_inv {t : Tg} {F : Sf} : ∀ {ds : List D} {ρ : Env} (I : Nat → Env → Prop), I 0 ρ → (∀ (i : Nat) (d : D) (ρ : Env), ds[i]? = some d → I i ρ → ∃ ρ1, put t d ρ = some ρ1 ∧ ∃ ρ2, (F ρ1 = .nx ρ2 ∨ F ρ1 = .ct ρ2) ∧ I (i + 1) ρ2) → ∃ ρ', loopF t F ds ρ = .nx ρ' ∧ I ds.length ρ'
  | [], ρ, I, h0, _ => ⟨ρ, rfl, h0⟩
  | d :: ds, ρ, I, h0, hs => by
    obtain ⟨ρ1, e1, ρ2, e2, h1⟩ := hs 0 d ρ rfl h0
    obtain ⟨ρ', e3, h3⟩ := loop_inv (ds := ds) (ρ := ρ2) (t := t) (F := F) (fun i => I (i + 1)) h1 fun i d' ρ' hi => hs (i + 1) d' ρ' (by simpa using hi)
    refine ⟨ρ', ?_, h3⟩
    rw [loop_cons, e1, opt_some]
    rcases e2 with e2 | e2
    · rw [e2]
      exact e3
    · rw [e2]
      exact e3
theorem comp_map {tg : Tg} {t : Tf} {f : Ef} {ρ : Env} : ∀ {ds es : List D}, es.length = ds.length → (∀ (i : Nat) (d e : D), ds[i]? = some d → es[i]? = some e → ∃ ρ1, put tg d ρ = some ρ1 ∧ t ρ1 = some true ∧ f ρ1 = some e) → compL tg t f ds ρ = some es
  | [], [], _, _ => rfl
  | d :: ds, [], h, _ => by simp at h
  | [], e :: es, h, _ => by simp at h
  | d :: ds, e :: es, h, hs => by
    obtain ⟨ρ1, e1, e2, e3⟩ := hs 0 d e rfl rfl
    have ih := comp_map (ds := ds) (es := es) (tg := tg) (t := t) (f := f) (ρ := ρ) (by simpa using h) fun i d' e' h1 h2 => hs (i + 1) d' e' (by simpa using h1) (by simpa using h2)
    show (put tg d ρ).bind _ = _
    rw [e1, Option.bind_some, e2, Option.bind_some, if_pos rfl, e3, Option.bind_some, ih]
    rfl
theorem comp_fun {i : Nat} {f : Ef} {ρ : Env} {g : D → D} {ds : List D} (h : ∀ d ∈ ds, f (ρ.set i (.sh d)) = some (g d)) : compL (.nm i) tYesF f ds ρ = some (ds.map g) :=
  comp_map (by rw [List.length_map]) fun j d e h1 h2 => by
    rw [List.getElem?_map, h1] at h2
    cases h2
    exact ⟨_, rfl, rfl, h d (List.mem_of_getElem? h1)⟩
theorem comp_filter {i : Nat} {t : Tf} {f : Ef} {ρ : Env} {p : D → Bool} {g : D → D} : ∀ {ds : List D}, (∀ d ∈ ds, t (ρ.set i (.sh d)) = some (p d)) → (∀ d ∈ ds, p d = true → f (ρ.set i (.sh d)) = some (g d)) → compL (.nm i) t f ds ρ = some ((ds.filter p).map g)
  | [], _, _ => rfl
  | d :: ds, h1, h2 => by
    have ih := comp_filter (ds := ds) (i := i) (t := t) (f := f) (ρ := ρ) (p := p) (g := g) (fun d hd => h1 d (List.mem_cons_of_mem _ hd)) (fun d hd => h2 d (List.mem_cons_of_mem _ hd))
    show (put (.nm i) d ρ).bind _ = _
    rw [put_nm, Option.bind_some, h1 d (List.mem_cons_self ..), Option.bind_some]
    cases e : p d with
    | true =>
      rw [if_pos rfl, h2 d (List.mem_cons_self ..) e, Option.bind_some, ih, List.filter_cons_of_pos e]
      rfl
    | false =>
      rw [if_neg (by simp), ih, List.filter_cons_of_neg (by rw [e]; simp)]
@[simp] theorem rangeD_len {lo n} : (rangeD lo n).length = n := by simp [rangeD]
theorem rangeD_get {lo : Int} {n i : Nat} {d : D} (h : (rangeD lo n)[i]? = some d) : i < n ∧ d = .int (lo + (i : Nat)) := by
  unfold rangeD at h
  rw [List.getElem?_map] at h
  obtain ⟨k, e1, e2⟩ := map_some2 h
  obtain ⟨hlt, e3⟩ := List.getElem?_eq_some_iff.mp e1
  rw [List.length_range] at hlt
  rw [List.getElem_range] at e3
  subst e3
  exact ⟨hlt, e2.symm⟩
theorem rangeD_mem {lo : Int} {n : Nat} {d : D} (h : d ∈ rangeD lo n) : ∃ i : Nat, i < n ∧ d = .int (lo + (i : Nat)) := by
  unfold rangeD at h
  obtain ⟨k, e1, e2⟩ := List.mem_map.mp h
  exact ⟨k, List.mem_range.mp e1, e2.symm⟩
end Fw

/-! FwD: the shared defs of the laws' own texts. -/
namespace Fw
open PySem PySem.Spec PyProof.Rows L2
theorem loop_checks {j : Nat} {F : Sf} : ∀ {ds : List D} {ρ : Env}, (∀ (i : Nat) (d : D), ds[i]? = some d → F (ρ.set j (.sh d)) = .nx (ρ.set j (.sh d))) → ∃ c, loopF (.nm j) F ds ρ = .nx (ρ.set j c) := by
  intro ds ρ h
  obtain ⟨ρ', e, c, rfl⟩ := loop_inv (t := .nm j) (F := F) (ds := ds) (ρ := ρ) (fun _ ρ' => ∃ c, ρ' = ρ.set j c) (by
    by_cases hj : j < ρ.length
    · exact ⟨ρ[j], (List.set_getElem_self hj).symm⟩
    · exact ⟨.no, (List.set_eq_of_length_le (by omega)).symm⟩) (by
    rintro i d _ hi ⟨c, rfl⟩
    refine ⟨_, rfl, _, .inl ?_, ⟨.sh d, rfl⟩⟩
    rw [List.set_set]
    exact h i d hi)
  exact ⟨c, e⟩
def m_whole : Sf :=
    (sRet (eAnd (eArgs oIsi (aCons (eVar 0) (aCons (eC (.ty "int")) aNil))) (e1o oNot (eArgs oIsi (aCons (eVar 0) (aCons (eC (.ty "bool")) aNil))))))
def wholeF : List D → Ret := runF 1 m_whole
def m_cell : Sf :=
    (sSeq (sIf (tB1 (eBin oLt (eVar 1) (eArgs oLen (aCons (eVar 0) aNil))))
    (sRet (eBin oIx (eVar 0) (eVar 1)))
    sNext)
    (sSeq (sSet 2 (eC (.int 17)))
    (sSeq (sFor (aItems (eVar 0)) (.nm 3)
    (sSet 2 (eBin oMod (eArgs oToInt (aCons (eBin oAdd (eBin oMul (eVar 2) (eC (.int 31))) (eBin oMod (eArgs oToInt (aCons (eVar 3) aNil)) (eC (.int 1000003)))) aNil)) (eC (.int 1000003)))))
    (sRet (eBin oMod (eArgs oToInt (aCons (eBin oMul (eBin oMul (eBin oAdd (eVar 2) (eC (.int 7))) (eBin oAdd (eVar 1) (eC (.int 3)))) (eC (.int 69621))) aNil)) (eC (.int 2147483647)))))))
def cellF : List D → Ret := runF 4 m_cell
def m_digits : Sf :=
    (sSeq (sSetF 2 (aLst aNil))
    (sSeq (sSet 3 (eArgs oToInt (aCons (eVar 0) aNil)))
    (sSeq (sIf (tB1 (eBin oGe (eVar 3) (eBin oPow (eC (.int 10)) (eC (.int 18)))))
    (sSeq (sSet 3 (eBin oSub (eVar 3) (eBin oPow (eC (.int 10)) (eC (.int 18)))))
    (sSeq (sFor (aItems (eVar 1)) (.nm 4)
    (sSeq (sApp 2 (eBin oMod (eArgs oToInt (aCons (eVar 3) aNil)) (eVar 4)))
    (sSet 3 (eBin oFdiv (eArgs oToInt (aCons (eVar 3) aNil)) (eVar 4)))))
    (sRetV 2)))
    sNext)
    (sSeq (sSet 5 (eBin oMod (eArgs oToInt (aCons (eVar 3) aNil)) (eC (.int 2147483629))))
    (sSeq (sFor (aRng1 (aCons (eArgs oLen (aCons (eVar 1) aNil)) aNil)) (.nm 6)
    (sSeq (sSet 5 (eBin oMod (eArgs oToInt (aCons (eBin oAdd (eBin oAdd (eBin oMul (eVar 5) (eC (.int 48271))) (eBin oMul (eC (.int 974711)) (eVar 6))) (eC (.int 12345))) aNil)) (eC (.int 2147483647))))
    (sSeq (sSet 7 (eBin oMod (eArgs oToInt (aCons (eBin oMul (eVar 5) (eBin oAdd (eBin oFdiv (eVar 5) (eC (.int 65537))) (eC (.int 3)))) aNil)) (eC (.int 2147483629))))
    (sApp 2 (eBin oMod (eArgs oToInt (aCons (eBin oFdiv (eVar 7) (eC (.int 19))) aNil)) (eBin oIx (eVar 1) (eVar 6)))))))
    (sRetV 2))))))
def digitsF : List D → Ret := runF 8 m_digits

theorem whole_int (i : Int) : wholeF [.int i] = .ok (.bl true) := by
  simp -implicitDefEqProofs [wholeF, runF, m_whole, startR]
theorem cell_ok (ns : List Int) (k : Nat) (hk : k ≤ 100000) : ∃ c : Int, cellF [.fl (ns.map .int), .int k] = .ok (.int c) := by
  by_cases hkn : k < ns.length
  · refine ⟨ns[k], ?_⟩
    simp -implicitDefEqProofs [cellF, runF, m_cell, startR, hkn, ixD_nat]
  · obtain ⟨ρ', e, s, c, rfl, h0, h1⟩ := loop_inv (t := .nm 3) (F := (sSet 2 (eBin oMod (eArgs oToInt (aCons (eBin oAdd (eBin oMul (eVar 2) (eC (.int 31))) (eBin oMod (eArgs oToInt (aCons (eVar 3) aNil)) (eC (.int 1000003)))) aNil)) (eC (.int 1000003)))))
      (ds := ns.map .int) (ρ := [.sh (.fl (ns.map .int)), .sh (.int k), .sh (.int 17), .no]) (fun _ ρ => ∃ (s : Int) (c : Cell), ρ = [.sh (.fl (ns.map .int)), .sh (.int k), .sh (.int s), c] ∧ 0 ≤ s ∧ s < 1000003) ⟨17, .no, rfl, by omega, by omega⟩ (by
      rintro i d _ hi ⟨s, c, rfl, h0, h1⟩
      rw [List.getElem?_map] at hi
      obtain ⟨n, _, rfl⟩ := map_some2 hi
      refine ⟨_, rfl, _, .inl ?_, ⟨(s * 31 + n % 1000003) % 1000003, .sh (.int n), rfl, by omega, by omega⟩⟩
      simp -implicitDefEqProofs (disch := omega) [oMul_b])
    refine ⟨(s + 7) * (k + 3) * 69621 % 2147483647, ?_⟩
    simp -implicitDefEqProofs (disch := omega) [cellF, runF, m_cell, startR, hkn, e, oMul_a, oMul_b]
theorem digits_ok (c : Int) (sizes : List Int) (h : ∀ s ∈ sizes, 0 < s ∧ s < 1073741824) (hl : sizes.length ≤ 100000) :
    ∃ ds : List Int, digitsF [.int c, .lst (sizes.map .int)] = .fr (.lst (ds.map .int)) ∧ ds.length = sizes.length ∧ ∀ (i : Nat) (d s : Int), ds[i]? = some d → sizes[i]? = some s → 0 ≤ d ∧ d < s := by
  by_cases hc : 10 ^ 18 ≤ c
  · obtain ⟨ρ', e, r, x, ds, rfl, h0, h1⟩ := loop_inv (t := .nm 4) (F := (sSeq (sApp 2 (eBin oMod (eArgs oToInt (aCons (eVar 3) aNil)) (eVar 4)))
    (sSet 3 (eBin oFdiv (eArgs oToInt (aCons (eVar 3) aNil)) (eVar 4)))))
      (ds := sizes.map .int) (ρ := [.sh (.int c), .sh (.lst (sizes.map .int)), .own (.lst []), .sh (.int (c - 10 ^ 18)), .no, .no, .no, .no])
      (fun i ρ => ∃ (r : Int) (x : Cell) (ds : List Int), ρ = [.sh (.int c), .sh (.lst (sizes.map .int)), .own (.lst (ds.map .int)), .sh (.int r), x, .no, .no, .no] ∧ ds.length = i ∧ ∀ (j : Nat) (d s : Int), ds[j]? = some d → sizes[j]? = some s → 0 ≤ d ∧ d < s)
      ⟨c - 10 ^ 18, .no, [], rfl, rfl, fun j d s h => by simp at h⟩ (by
      rintro i d _ hi ⟨r, x, ds, rfl, h0, h1⟩
      rw [List.getElem?_map] at hi
      obtain ⟨n, hn, rfl⟩ := map_some2 hi
      have hp := h n (List.mem_of_getElem? hn)
      have hi2 := (List.getElem?_eq_some_iff.mp hn).1
      refine ⟨_, rfl, _, .inl ?_, ⟨r / n, .sh (.int n), ds ++ [r % n], rfl, by rw [List.length_append, h0]; rfl, fun j d s h2 h3 => ?_⟩⟩
      · have : ds.length < 16777216 := by omega
        simp -implicitDefEqProofs (disch := omega) [oMod_p, oFdiv_p, this]
      · by_cases hj : j < ds.length
        · rw [List.getElem?_append_left hj] at h2
          exact h1 j d s h2 h3
        · have hj2 : j = ds.length := by
            have := (List.getElem?_eq_some_iff.mp h2).1
            rw [List.length_append] at this
            simp at this
            omega
          subst hj2
          rw [h0] at h3
          rw [hn] at h3
          cases h3
          simp at h2
          subst h2
          exact ⟨Int.emod_nonneg _ (by omega), Int.emod_lt_of_pos _ hp.1⟩)
    refine ⟨ds, ?_, by rw [h0, List.length_map], h1⟩
    simp -implicitDefEqProofs (disch := omega) [digitsF, runF, m_digits, startR] 
    simp at hc
    simp -implicitDefEqProofs at e
    simp -implicitDefEqProofs [e, hc]
  · obtain ⟨ρ', e, r, x, y, ds, rfl, h2, h3, h0, h1⟩ := loop_inv (t := .nm 6) (F := (sSeq (sSet 5 (eBin oMod (eArgs oToInt (aCons (eBin oAdd (eBin oAdd (eBin oMul (eVar 5) (eC (.int 48271))) (eBin oMul (eC (.int 974711)) (eVar 6))) (eC (.int 12345))) aNil)) (eC (.int 2147483647))))
    (sSeq (sSet 7 (eBin oMod (eArgs oToInt (aCons (eBin oMul (eVar 5) (eBin oAdd (eBin oFdiv (eVar 5) (eC (.int 65537))) (eC (.int 3)))) aNil)) (eC (.int 2147483629))))
    (sApp 2 (eBin oMod (eArgs oToInt (aCons (eBin oFdiv (eVar 7) (eC (.int 19))) aNil)) (eBin oIx (eVar 1) (eVar 6)))))))
      (ds := rangeD 0 sizes.length) (ρ := [.sh (.int c), .sh (.lst (sizes.map .int)), .own (.lst []), .sh (.int c), .no, .sh (.int (c % 2147483629)), .no, .no])
      (fun i ρ => ∃ (r : Int) (x y : Cell) (ds : List Int), ρ = [.sh (.int c), .sh (.lst (sizes.map .int)), .own (.lst (ds.map .int)), .sh (.int c), .no, .sh (.int r), x, y] ∧ 0 ≤ r ∧ r < 2147483648 ∧ ds.length = i ∧ ∀ (j : Nat) (d s : Int), ds[j]? = some d → sizes[j]? = some s → 0 ≤ d ∧ d < s)
      ⟨c % 2147483629, .no, .no, [], rfl, by omega, by omega, rfl, fun j d s h => by simp at h⟩ (by
      rintro i d _ hi ⟨r, x, y, ds, rfl, h2, h3, h0, h1⟩
      obtain ⟨hi2, rfl⟩ := rangeD_get hi
      have hn : sizes[i]? = some sizes[i] := List.getElem?_eq_getElem hi2
      have hp := h sizes[i] (List.getElem_mem hi2)
      have hs : ds.length < 16777216 := by omega
      let r2 : Int := (r * 48271 + 974711 * i + 12345) % 2147483647
      have hr2 : 0 ≤ r2 ∧ r2 < 2147483647 := ⟨Int.emod_nonneg _ (by omega), Int.emod_lt_of_pos _ (by omega)⟩
      refine ⟨_, rfl, _, .inl ?_, ⟨r2, .sh (.int i), .sh (.int (r2 * (r2 / 65537 + 3) % 2147483629)), ds ++ [r2 * (r2 / 65537 + 3) % 2147483629 / 19 % sizes[i]], rfl, by omega, by omega, by rw [List.length_append, h0]; rfl, fun j d s h4 h5 => ?_⟩⟩
      · have e1 : (r * 48271 + 974711 * i + 12345) % 2147483647 = r2 := rfl
        simp -implicitDefEqProofs (disch := omega) [oMod_p, oFdiv_p, oMul_a, oMul_b, hs, e1, ixD_nat, hi2, hp]
      · by_cases hj : j < ds.length
        · rw [List.getElem?_append_left hj] at h4
          exact h1 j d s h4 h5
        · have hj2 : j = ds.length := by
            have := (List.getElem?_eq_some_iff.mp h4).1
            rw [List.length_append] at this
            simp at this
            omega
          subst hj2
          rw [h0] at h5
          rw [hn] at h5
          cases h5
          simp at h4
          subst h4
          exact ⟨Int.emod_nonneg _ (by omega), Int.emod_lt_of_pos _ hp.1⟩)
    refine ⟨ds, ?_, by rw [h0, rangeD_len], h1⟩
    simp -implicitDefEqProofs (disch := omega) [digitsF, runF, m_digits, startR, hc, rng1_x, e]
    simp -implicitDefEqProofs [e, show ¬ (1000000000000000000 ≤ c) by omega]
def m_digits2 : Sf :=
    (sSeq (sSetF 2 (aLst aNil))
    (sSeq (sSet 3 (eArgs oToInt (aCons (eVar 0) aNil)))
    (sSeq (sIf (tB1 (eBin oGe (eVar 3) (eBin oPow (eC (.int 10)) (eC (.int 18)))))
    (sSeq (sSet 3 (eBin oSub (eVar 3) (eBin oPow (eC (.int 10)) (eC (.int 18)))))
    (sSeq (sFor (aItems (eVar 1)) (.nm 4)
    (sSeq (sApp 2 (eBin oMod (eArgs oToInt (aCons (eVar 3) aNil)) (eVar 4)))
    (sSet 3 (eBin oFdiv (eArgs oToInt (aCons (eVar 3) aNil)) (eVar 4)))))
    (sRetV 2)))
    sNext)
    (sSeq (sSet 5 (eBin oMod (eArgs oToInt (aCons (eVar 3) aNil)) (eC (.int 2147483629))))
    (sSeq (sFor (aRng1 (aCons (eArgs oLen (aCons (eVar 1) aNil)) aNil)) (.nm 6)
    (sSeq (sSet 5 (eBin oMod (eArgs oToInt (aCons (eBin oAdd (eBin oAdd (eBin oMul (eVar 5) (eC (.int 48271))) (eBin oMul (eC (.int 974711)) (eVar 6))) (eC (.int 12345))) aNil)) (eC (.int 2147483647))))
    (sSeq (sSet 7 (eBin oMod (eArgs oToInt (aCons (eBin oMul (eVar 5) (eBin oAdd (eBin oFdiv (eVar 5) (eC (.int 65537))) (eC (.int 3)))) aNil)) (eC (.int 2147483629))))
    (sApp 2 (eBin oMod (eBin oFdiv (eVar 7) (eC (.int 19))) (eBin oIx (eVar 1) (eVar 6)))))))
    (sRetV 2))))))
def digits2F : List D → Ret := runF 8 m_digits2
theorem digits2_ok (c : Int) (sizes : List Int) (h : ∀ s ∈ sizes, 0 < s ∧ s < 1073741824) (hl : sizes.length ≤ 100000) :
    ∃ ds : List Int, digits2F [.int c, .lst (sizes.map .int)] = .fr (.lst (ds.map .int)) ∧ ds.length = sizes.length ∧ ∀ (i : Nat) (d s : Int), ds[i]? = some d → sizes[i]? = some s → 0 ≤ d ∧ d < s := by
  by_cases hc : 10 ^ 18 ≤ c
  · obtain ⟨ρ', e, r, x, ds, rfl, h0, h1⟩ := loop_inv (t := .nm 4) (F := (sSeq (sApp 2 (eBin oMod (eArgs oToInt (aCons (eVar 3) aNil)) (eVar 4)))
    (sSet 3 (eBin oFdiv (eArgs oToInt (aCons (eVar 3) aNil)) (eVar 4)))))
      (ds := sizes.map .int) (ρ := [.sh (.int c), .sh (.lst (sizes.map .int)), .own (.lst []), .sh (.int (c - 10 ^ 18)), .no, .no, .no, .no])
      (fun i ρ => ∃ (r : Int) (x : Cell) (ds : List Int), ρ = [.sh (.int c), .sh (.lst (sizes.map .int)), .own (.lst (ds.map .int)), .sh (.int r), x, .no, .no, .no] ∧ ds.length = i ∧ ∀ (j : Nat) (d s : Int), ds[j]? = some d → sizes[j]? = some s → 0 ≤ d ∧ d < s)
      ⟨c - 10 ^ 18, .no, [], rfl, rfl, fun j d s h => by simp at h⟩ (by
      rintro i d _ hi ⟨r, x, ds, rfl, h0, h1⟩
      rw [List.getElem?_map] at hi
      obtain ⟨n, hn, rfl⟩ := map_some2 hi
      have hp := h n (List.mem_of_getElem? hn)
      have hi2 := (List.getElem?_eq_some_iff.mp hn).1
      refine ⟨_, rfl, _, .inl ?_, ⟨r / n, .sh (.int n), ds ++ [r % n], rfl, by rw [List.length_append, h0]; rfl, fun j d s h2 h3 => ?_⟩⟩
      · have : ds.length < 16777216 := by omega
        simp -implicitDefEqProofs (disch := omega) [oMod_p, oFdiv_p, this]
      · by_cases hj : j < ds.length
        · rw [List.getElem?_append_left hj] at h2
          exact h1 j d s h2 h3
        · have hj2 : j = ds.length := by
            have := (List.getElem?_eq_some_iff.mp h2).1
            rw [List.length_append] at this
            simp at this
            omega
          subst hj2
          rw [h0] at h3
          rw [hn] at h3
          cases h3
          simp at h2
          subst h2
          exact ⟨Int.emod_nonneg _ (by omega), Int.emod_lt_of_pos _ hp.1⟩)
    refine ⟨ds, ?_, by rw [h0, List.length_map], h1⟩
    simp -implicitDefEqProofs (disch := omega) [digits2F, runF, m_digits2, startR] 
    simp at hc
    simp -implicitDefEqProofs at e
    simp -implicitDefEqProofs [e, hc]
  · obtain ⟨ρ', e, r, x, y, ds, rfl, h2, h3, h0, h1⟩ := loop_inv (t := .nm 6) (F := (sSeq (sSet 5 (eBin oMod (eArgs oToInt (aCons (eBin oAdd (eBin oAdd (eBin oMul (eVar 5) (eC (.int 48271))) (eBin oMul (eC (.int 974711)) (eVar 6))) (eC (.int 12345))) aNil)) (eC (.int 2147483647))))
    (sSeq (sSet 7 (eBin oMod (eArgs oToInt (aCons (eBin oMul (eVar 5) (eBin oAdd (eBin oFdiv (eVar 5) (eC (.int 65537))) (eC (.int 3)))) aNil)) (eC (.int 2147483629))))
    (sApp 2 (eBin oMod (eBin oFdiv (eVar 7) (eC (.int 19))) (eBin oIx (eVar 1) (eVar 6)))))))
      (ds := rangeD 0 sizes.length) (ρ := [.sh (.int c), .sh (.lst (sizes.map .int)), .own (.lst []), .sh (.int c), .no, .sh (.int (c % 2147483629)), .no, .no])
      (fun i ρ => ∃ (r : Int) (x y : Cell) (ds : List Int), ρ = [.sh (.int c), .sh (.lst (sizes.map .int)), .own (.lst (ds.map .int)), .sh (.int c), .no, .sh (.int r), x, y] ∧ 0 ≤ r ∧ r < 2147483648 ∧ ds.length = i ∧ ∀ (j : Nat) (d s : Int), ds[j]? = some d → sizes[j]? = some s → 0 ≤ d ∧ d < s)
      ⟨c % 2147483629, .no, .no, [], rfl, by omega, by omega, rfl, fun j d s h => by simp at h⟩ (by
      rintro i d _ hi ⟨r, x, y, ds, rfl, h2, h3, h0, h1⟩
      obtain ⟨hi2, rfl⟩ := rangeD_get hi
      have hn : sizes[i]? = some sizes[i] := List.getElem?_eq_getElem hi2
      have hp := h sizes[i] (List.getElem_mem hi2)
      have hs : ds.length < 16777216 := by omega
      let r2 : Int := (r * 48271 + 974711 * i + 12345) % 2147483647
      have hr2 : 0 ≤ r2 ∧ r2 < 2147483647 := ⟨Int.emod_nonneg _ (by omega), Int.emod_lt_of_pos _ (by omega)⟩
      refine ⟨_, rfl, _, .inl ?_, ⟨r2, .sh (.int i), .sh (.int (r2 * (r2 / 65537 + 3) % 2147483629)), ds ++ [r2 * (r2 / 65537 + 3) % 2147483629 / 19 % sizes[i]], rfl, by omega, by omega, by rw [List.length_append, h0]; rfl, fun j d s h4 h5 => ?_⟩⟩
      · have e1 : (r * 48271 + 974711 * i + 12345) % 2147483647 = r2 := rfl
        simp -implicitDefEqProofs (disch := omega) [oMod_p, oFdiv_p, oMul_a, oMul_b, hs, e1, ixD_nat, hi2, hp]
      · by_cases hj : j < ds.length
        · rw [List.getElem?_append_left hj] at h4
          exact h1 j d s h4 h5
        · have hj2 : j = ds.length := by
            have := (List.getElem?_eq_some_iff.mp h4).1
            rw [List.length_append] at this
            simp at this
            omega
          subst hj2
          rw [h0] at h5
          rw [hn] at h5
          cases h5
          simp at h4
          subst h4
          exact ⟨Int.emod_nonneg _ (by omega), Int.emod_lt_of_pos _ hp.1⟩)
    refine ⟨ds, ?_, by rw [h0, rangeD_len], h1⟩
    simp -implicitDefEqProofs (disch := omega) [digits2F, runF, m_digits2, startR, hc, rng1_x, e]
    simp -implicitDefEqProofs [e, show ¬ (1000000000000000000 ≤ c) by omega]
end Fw

/-! FwG: frozen and games. -/
namespace Fw
open PySem PySem.Spec PyProof.Rows L2
def frozenM (r_frozen : List D → Ret) : Sf :=
    (sSeq (sIf (tB1 (eArgs oIsi (aCons (eVar 0) (aCons (eTup (aCons (eC (.ty "list")) (aCons (eC (.ty "tuple")) aNil))) aNil))))
    (sRet (eArgs oTuple (aCons (fL (aComp (aItems (eVar 0)) (.nm 1) tYesF (eCall r_frozen (aCons (eVar 1) aNil)))) aNil)))
    sNext)
    (sRet (eVar 0)))
def frozenF : Nat → List D → Ret
  | 0 => fun _ => .stuck
  | k + 1 => runF 2 (frozenM (frozenF k))
def Game_topM : Sf :=
    (sRet (e1o (oMaxD 0) (e1o (oFld 0 1) (eVar 0))))
def Game_topF : List D → Ret := runF 1 Game_topM
def Game_ceilingM : Sf :=
    (sRet (eBin oSub (eBin oAdd (eProp 0 Game_topF (eVar 0)) (eC (.int 2))) (eBin oMod (eProp 0 Game_topF (eVar 0)) (eC (.int 2)))))
def Game_ceilingF : List D → Ret := runF 1 Game_ceilingM
def is_numberM : Sf :=
    (sRet (eAnd (eArgs oIsi (aCons (eVar 0) (aCons (eC (.ty "int")) aNil))) (e1o oNot (eArgs oIsi (aCons (eVar 0) (aCons (eC (.ty "bool")) aNil))))))
def is_numberF : List D → Ret := runF 1 is_numberM
def is_betweenM : Sf :=
    (sRet (eAnd (eCall is_numberF (aCons (eVar 0) aNil)) (tChainF oLe oLe (eVar 1) (eVar 0) (eVar 2))))
def is_betweenF : List D → Ret := runF 3 is_betweenM
def is_successor_rowM : Sf :=
    (sSeq (sIf (tNotF (tB1 (eArgs oIsi (aCons (eVar 0) (aCons (eC (.ty "tuple")) aNil)))))
    (sRet (eC (.bl false)))
    sNext)
    (sSeq (sSet 2 (e1o oNeg (eC (.int 1))))
    (sSeq (sFor (aItems (eVar 0)) (.nm 3)
    (sSeq (sIf (tNotF (tB1 (eCall is_betweenF (aCons (eVar 3) (aCons (eBin oAdd (eVar 2) (eC (.int 1))) (aCons (eBin oSub (eVar 1) (eC (.int 1))) aNil))))))
    (sRet (eC (.bl false)))
    sNext)
    (sSet 2 (eVar 3))))
    (sRet (eBin oGt (eArgs oLen (aCons (eVar 0) aNil)) (eC (.int 0)))))))
def is_successor_rowF : List D → Ret := runF 4 is_successor_rowM
def Game_initM : Sf :=
    (sSeq (sFst 0 0 0 (eCall (frozenF 4) (aCons (eVar 1) aNil)))
    (sSeq (sFst 0 0 1 (eCall (frozenF 4) (aCons (eVar 2) aNil)))
    (sSeq (sFst 0 0 2 (eCall (frozenF 4) (aCons (eVar 3) aNil)))
    (sSeq (sSet 4 (eArgs oLen (aCons (e1o (oFld 0 0) (eOwn 0)) aNil)))
    (sSeq (sFor (aRng1 (aCons (eVar 4) aNil)) (.nm 5)
    (sSeq (sSet 6 (eAnd (eCall is_betweenF (aCons (eBin oIx (e1o (oFld 0 0) (eOwn 0)) (eVar 5)) (aCons (eC (.int 0)) (aCons (eC (.int 1)) aNil)))) (eCall is_betweenF (aCons (eBin oIx (e1o (oFld 0 1) (eOwn 0)) (eVar 5)) (aCons (eC (.int 0)) (aCons (eC (.int 30)) aNil))))))
    (sIf (tOrF (tNotF (tB1 (eVar 6))) (tNotF (tB1 (eCall is_successor_rowF (aCons (eBin oIx (e1o (oFld 0 2) (eOwn 0)) (eVar 5)) (aCons (eVar 4) aNil))))))
    sStuck
    sNext)))
    (sFst 0 0 3 (eBin oFdiv (eBin oAdd (eProp 0 Game_topF (eOwn 0)) (eC (.int 1))) (eC (.int 2)))))))))
def Game_initF : List D → Option (List D) := runI 0 7 Game_initM

theorem rng1_n {n : Nat} (h : n ≤ 1000000000) : rng1 [.int n] = some (rangeD 0 n) := by
  rw [rng1_x (by omega), Int.toNat_natCast]
theorem frozen_int (n : Nat) (i : Int) : frozenF (n + 1) [.int i] = .ok (.int i) := by
  simp -implicitDefEqProofs [frozenF, runF, frozenM, startR]
theorem frozen_seq {n : Nat} {d : D} {ds : List D} {g : D → D} (hd : d = .lst ds ∨ d = .tup ds) (hl : ds.length ≤ 16777216) (h : ∀ x ∈ ds, frozenF n [x] = .ok (g x)) : frozenF (n + 1) [d] = .ok (.tup (ds.map g)) := by
  have hc : compL (.nm 1) tYesF (eCall (frozenF n) (aCons (eVar 1) aNil)) ds [.sh d, .no] = some (ds.map g) := comp_fun fun x hx => by
    simp -implicitDefEqProofs [h x hx]
  rcases hd with rfl | rfl
  · simp -implicitDefEqProofs [frozenF, runF, frozenM, startR, hc, hl]
  · simp -implicitDefEqProofs [frozenF, runF, frozenM, startR, hc, hl]
theorem frozen_ints {n : Nat} {d : D} {ns : List Int} (hd : d = .lst (ns.map .int) ∨ d = .tup (ns.map .int)) (hl : ns.length ≤ 16777216) : frozenF (n + 2) [d] = .ok (.tup (ns.map .int)) := by
  have z := frozen_seq (n := n + 1) (g := id) hd (by rw [List.length_map]; exact hl) fun x hx => by
    obtain ⟨i, _, rfl⟩ := List.mem_map.mp hx
    exact frozen_int n i
  rw [z, List.map_id]
def rowD (r : List Int) : D := .tup (r.map .int)
def rowL (r : List Int) : D := .lst (r.map .int)
theorem frozen_rows {n : Nat} {d : D} {rows : List (List Int)} (hd : d = .lst (rows.map rowL) ∨ d = .tup (rows.map rowD)) (hl : rows.length ≤ 16777216) (hr : ∀ r ∈ rows, r.length ≤ 16777216) : frozenF (n + 3) [d] = .ok (.tup (rows.map rowD)) := by
  rcases hd with hd | hd
  · have z := frozen_seq (n := n + 2) (d := d) (ds := rows.map rowL) (g := fun x => match x with | .lst y => .tup y | x => x) (.inl hd) (by rw [List.length_map]; exact hl) fun x hx => by
      obtain ⟨r, h1, rfl⟩ := List.mem_map.mp hx
      exact frozen_ints (.inl rfl) (hr r h1)
    rw [z, List.map_map]
    rfl
  · have z := frozen_seq (n := n + 2) (d := d) (ds := rows.map rowD) (g := id) (.inr hd) (by rw [List.length_map]; exact hl) fun x hx => by
      obtain ⟨r, h1, rfl⟩ := List.mem_map.mp hx
      exact frozen_ints (.inr rfl) (hr r h1)
    rw [z, List.map_id]
theorem between_int (i a b : Int) : is_betweenF [.int i, .int a, .int b] = .ok (.bl (decide (a ≤ i ∧ i ≤ b))) := by
  simp -implicitDefEqProofs [is_betweenF, runF, is_betweenM, startR, is_numberF, is_numberM]
  by_cases h : a ≤ i <;> simp -implicitDefEqProofs [h]
/-- strictly ascending from above b, below c -/
def Asc (c : Int) : Int → List Int → Prop
  | _, [] => True
  | b, v :: r => b + 1 ≤ v ∧ v ≤ c - 1 ∧ Asc c v r
theorem loop_asc {c : Int} {d : D} : ∀ {r : List Int} {b : Int} {x : Cell}, Asc c b r → ∃ b' x', loopF (.nm 3) (sSeq (sIf (tNotF (tB1 (eCall is_betweenF (aCons (eVar 3) (aCons (eBin oAdd (eVar 2) (eC (.int 1))) (aCons (eBin oSub (eVar 1) (eC (.int 1))) aNil))))))
    (sRet (eC (.bl false))) sNext) (sSet 2 (eVar 3))) (r.map .int) [.sh d, .sh (.int c), .sh (.int b), x] = .nx [.sh d, .sh (.int c), .sh (.int b'), x']
  | [], b, x, _ => ⟨b, x, rfl⟩
  | v :: r, b, x, h => by
    obtain ⟨b', x', e⟩ := loop_asc (c := c) (d := d) (r := r) (b := v) (x := .sh (.int v)) h.2.2
    refine ⟨b', x', ?_⟩
    rw [← e, List.map_cons, loop_cons]
    simp -implicitDefEqProofs [between_int, h.1, h.2.1]
theorem row_ok {c : Int} {r : List Int} (h : Asc c (-1) r) (hn : r ≠ []) : is_successor_rowF [rowD r, .int c] = .ok (.bl true) := by
  obtain ⟨b', x', e⟩ := loop_asc (c := c) (d := rowD r) (r := r) (b := -1) (x := .no) h
  have hp : 0 < r.length := List.length_pos_iff.mpr hn
  have e : loopF (.nm 3) (sSeq (sIf (tNotF (tB1 (eCall is_betweenF (aCons (eVar 3) (aCons (eBin oAdd (eVar 2) (eC (.int 1))) (aCons (eBin oSub (eVar 1) (eC (.int 1))) aNil))))))
    (sRet (eC (.bl false))) sNext) (sSet 2 (eVar 3))) (r.map .int) [.sh (.tup (r.map .int)), .sh (.int c), .sh (.int (-1)), .no] = _ := e
  simp -implicitDefEqProofs [is_successor_rowF, runF, is_successor_rowM, startR, rowD, oNeg, e, hp]
@[simp] theorem oFld_x {c i ds} : oFld c i (.ins c ds) = ds[i]? := if_pos rfl
@[simp] theorem eProp_x {c F f ρ} : eProp c F f ρ = (f ρ).bind fun d => match d with
  | .ins c' ds => if c' = c then (Fw.toD (F [.ins c ds])).bind scal else none
  | _ => none := rfl
@[simp] theorem scal_int {i} : scal (.int i) = some (.int i) := rfl
@[simp] theorem scal_bl {i} : scal (.bl i) = some (.bl i) := rfl
@[simp] theorem aMake_x {c F f ρ} : aMake c F f ρ = (f ρ).bind fun ds => (F ds).map fun zs => Ow.obj c zs := rfl
@[simp] theorem eMeth_x {c F f fs ρ} : eMeth c F f fs ρ = (f ρ).bind fun d => match d with
  | .ins c' ds => if c' = c then (fs ρ).bind fun zs => Fw.toD (F (.ins c ds :: zs)) else none
  | _ => none := by
  unfold eMeth
  cases f ρ with
  | none => rfl
  | some d => cases d <;> rfl
@[simp] theorem oLenO_x {c F ds} : oLenO c F [.ins c ds] = (Fw.toD (F [.ins c ds])).bind fun z => match z with
    | .int n => if 0 ≤ n ∧ n < 9223372036854775808 then some (.int n) else none
    | _ => none := if_pos rfl
@[simp] theorem oMaxD_tup {k} {ns : List Int} : oMaxD k (.tup (ns.map .int)) = some (.int (maxIx ns k)) := by
  unfold oMaxD numsOfD
  dsimp only
  rw [intsOf_map]
  rfl
@[simp] theorem oMaxD_lst {k} {ns : List Int} : oMaxD k (.lst (ns.map .int)) = some (.int (maxIx ns k)) := by
  unfold oMaxD numsOfD
  dsimp only
  rw [intsOf_map]
  rfl
def fst (ρ : Env) (i c j : Nat) (d : D) : Cell → Out
  | .own (.obj c' ds) => if c' = c then (if ds.length = j then .nx (ρ.set i (.own (.obj c (ds ++ [d])))) else if j < ds.length then .nx (ρ.set i (.own (.obj c (ds.set j d)))) else .stuck) else .stuck
  | _ => .stuck
@[simp] theorem fst_x {ρ i c j d ds} : fst ρ i c j d (.own (.obj c ds)) = if ds.length = j then .nx (ρ.set i (.own (.obj c (ds ++ [d])))) else if j < ds.length then .nx (ρ.set i (.own (.obj c (ds.set j d)))) else .stuck := if_pos rfl
@[simp] theorem sFst_x {i c j f ρ} : sFst i c j f ρ = opt (f ρ) fun d => fst ρ i c j d (cellAt ρ i) := by
  unfold sFst
  cases f ρ with
  | none =>
    show _ = Out.stuck
    split <;> simp_all
  | some d =>
    rw [opt_some]
    unfold fst
    cases cellAt ρ i with
    | own o => cases o <;> rfl
    | _ => rfl
def objOf (c : Nat) : Out → Option (List D)
  | .nx ρ => match cellAt ρ 0 with
    | .own (.obj c' zs) => if c' = c then some zs else none
    | _ => none
  | _ => none
@[simp] theorem objOf_x {c zs r} : objOf c (.nx (.own (.obj c zs) :: r)) = some zs := if_pos rfl
theorem runI_x {c n F ds} : runI c n F ds = objOf c (F (.own (.obj c []) :: startR (n - 1) ds)) := rfl
theorem top_ok {os : D} {ps : List Int} {rest : List D} : Game_topF [.ins 0 (os :: .tup (ps.map .int) :: rest)] = .ok (.int (maxIx ps 0)) := by
  simp -implicitDefEqProofs [Game_topF, runF, Game_topM, startR]
theorem ceiling_ok {os : D} {ps : List Int} {rest : List D} : Game_ceilingF [.ins 0 (os :: .tup (ps.map .int) :: rest)] = .ok (.int (maxIx ps 0 + 2 - maxIx ps 0 % 2)) := by
  simp -implicitDefEqProofs [Game_ceilingF, runF, Game_ceilingM, startR, top_ok]
/-- a game as data -/
def gameD (os ps : List Int) (ss : List (List Int)) : D := .ins 0 [.tup (os.map .int), .tup (ps.map .int), .tup (ss.map rowD), .int ((maxIx ps 0 + 1) / 2)]
structure GameOk (os ps : List Int) (ss : List (List Int)) : Prop where
  lp : ps.length = os.length
  ls : ss.length = os.length
  few : os.length ≤ 100000
  ow : ∀ o ∈ os, 0 ≤ o ∧ o ≤ 1
  pr : ∀ p ∈ ps, 0 ≤ p ∧ p ≤ 30
  su : ∀ r ∈ ss, r ≠ [] ∧ Asc os.length (-1) r
theorem init_game {os ps : List Int} {ss : List (List Int)} {a b c : D} (g : GameOk os ps ss) (ha : frozenF 4 [a] = .ok (.tup (os.map .int))) (hb : frozenF 4 [b] = .ok (.tup (ps.map .int))) (hc : frozenF 4 [c] = .ok (.tup (ss.map rowD))) :
    Game_initF [a, b, c] = some [.tup (os.map .int), .tup (ps.map .int), .tup (ss.map rowD), .int ((maxIx ps 0 + 1) / 2)] := by
  have hf := g.few
  obtain ⟨ρ', e, x, y, rfl⟩ := loop_inv (t := .nm 5) (F := (sSeq (sSet 6 (eAnd (eCall is_betweenF (aCons (eBin oIx (e1o (oFld 0 0) (eOwn 0)) (eVar 5)) (aCons (eC (.int 0)) (aCons (eC (.int 1)) aNil)))) (eCall is_betweenF (aCons (eBin oIx (e1o (oFld 0 1) (eOwn 0)) (eVar 5)) (aCons (eC (.int 0)) (aCons (eC (.int 30)) aNil))))))
    (sIf (tOrF (tNotF (tB1 (eVar 6))) (tNotF (tB1 (eCall is_successor_rowF (aCons (eBin oIx (e1o (oFld 0 2) (eOwn 0)) (eVar 5)) (aCons (eVar 4) aNil))))))
    sStuck
    sNext)))
    (ds := rangeD 0 os.length) (ρ := [.own (.obj 0 [.tup (os.map .int), .tup (ps.map .int), .tup (ss.map rowD)]), .sh a, .sh b, .sh c, .sh (.int os.length), .no, .no])
    (fun _ ρ => ∃ x y, ρ = [.own (.obj 0 [.tup (os.map .int), .tup (ps.map .int), .tup (ss.map rowD)]), .sh a, .sh b, .sh c, .sh (.int os.length), x, y]) ⟨.no, .no, rfl⟩ (by
    rintro i d _ hi ⟨x, y, rfl⟩
    obtain ⟨hi2, rfl⟩ := rangeD_get hi
    have h1 : i < ps.length := by rw [g.lp]; exact hi2
    have h2 : i < ss.length := by rw [g.ls]; exact hi2
    have k1 := g.ow os[i] (List.getElem_mem hi2)
    have k2 := g.pr ps[i] (List.getElem_mem h1)
    have k3 := g.su ss[i] (List.getElem_mem h2)
    refine ⟨_, rfl, _, .inl ?_, ⟨.sh (.int i), .sh (.bl true), rfl⟩⟩
    simp -implicitDefEqProofs [ixD_nat, hi2, h1, h2, between_int, k1, k2, row_ok k3.2 k3.1])
  have hr := rng1_n (n := os.length) (by omega)
  simp -implicitDefEqProofs [Game_initF, runI_x, Game_initM, startR, ha, hb, hc, hr, e, top_ok]
end Fw

/-! FwE: plain laws of lists. -/
namespace Fw
open PySem PySem.Spec PyProof.Rows L2
theorem comp_ints {i : Nat} {f : Ef} {ρ : Env} {g : Int → D} {ns : List Int} (h : ∀ n ∈ ns, f (ρ.set i (.sh (.int n))) = some (g n)) : compL (.nm i) tYesF f (ns.map .int) ρ = some (ns.map g) :=
  comp_map (by rw [List.length_map, List.length_map]) fun j d e h1 h2 => by
    rw [List.getElem?_map] at h1 h2
    obtain ⟨n, e1, rfl⟩ := map_some2 h1
    rw [e1] at h2
    cases h2
    exact ⟨_, rfl, rfl, h n (List.mem_of_getElem? e1)⟩
theorem comp_range {i : Nat} {f : Ef} {ρ : Env} {g : Nat → D} {n : Nat} {lo : Int} (h : ∀ k, k < n → f (ρ.set i (.sh (.int (lo + (k : Nat))))) = some (g k)) : compL (.nm i) tYesF f (rangeD lo n) ρ = some ((List.range n).map g) :=
  comp_map (by rw [rangeD_len, List.length_map, List.length_range]) fun j d e h1 h2 => by
    obtain ⟨hj, rfl⟩ := rangeD_get h1
    rw [List.getElem?_map, List.getElem?_range hj] at h2
    cases h2
    exact ⟨_, rfl, rfl, h j hj⟩
/-- the same value every time -/
theorem comp_same {i : Nat} {f : Ef} {ρ : Env} {d : D} {ds : List D} (h : ∀ x ∈ ds, f (ρ.set i (.sh x)) = some d) : compL (.nm i) tYesF f ds ρ = some (List.replicate ds.length d) := by
  rw [comp_fun (g := fun _ => d) h, List.map_const']
theorem take_min {α : Type} (xs : List α) (w : Nat) : xs.take (min w xs.length) = xs.take w := by
  by_cases h : w ≤ xs.length
  · rw [Nat.min_eq_left h]
  · rw [Nat.min_eq_right (by omega), List.take_length, List.take_of_length_le (by omega)]
theorem drop_min {α : Type} (xs : List α) (w : Nat) : xs.drop (min w xs.length) = xs.drop w := by
  by_cases h : w ≤ xs.length
  · rw [Nat.min_eq_left h]
  · rw [Nat.min_eq_right (by omega), List.drop_length, List.drop_of_length_le (by omega)]
theorem cut_take (xs : List D) (w : Nat) : Fw.cutD xs none (some (w : Int)) = xs.take w := by
  unfold Fw.cutD
  rw [HT.sIx_none, HT.sIx_nat, List.drop_zero, Nat.sub_zero, take_min]
theorem cut_drop (xs : List D) (w : Nat) : Fw.cutD xs (some (w : Int)) none = xs.drop w := by
  unfold Fw.cutD
  rw [HT.sIx_none, HT.sIx_nat, drop_min]
  apply List.take_of_length_le
  rw [List.length_drop]
  omega
theorem cut_both (xs : List D) (a b : Nat) : Fw.cutD xs (some (a : Int)) (some (b : Int)) = (xs.drop a).take (b - a) := by
  unfold Fw.cutD
  rw [HT.sIx_nat, HT.sIx_nat, drop_min]
  by_cases h : b ≤ xs.length
  · rw [Nat.min_eq_left h]
    by_cases h2 : a ≤ xs.length
    · rw [Nat.min_eq_left h2]
    · rw [List.drop_of_length_le (by omega), List.take_nil, List.take_nil]
  · rw [Nat.min_eq_right (by omega)]
    rw [List.take_of_length_le (by rw [List.length_drop]; omega), List.take_of_length_le (by rw [List.length_drop]; omega)]
theorem maxIx_nn {ns : List Int} (h : ∀ n ∈ ns, 0 ≤ n) : (maxIx ns 0 = 0 ∨ maxIx ns 0 ∈ ns) ∧ 0 ≤ maxIx ns 0 ∧ ∀ n ∈ ns, n ≤ maxIx ns 0 := by
  cases ns with
  | nil => exact ⟨.inl rfl, by rw [maxIx_nil]; omega, fun n h => nomatch h⟩
  | cons x r =>
    have e : maxI (x :: r) = some (maxIx (x :: r) 0) := rfl
    obtain ⟨h1, h2⟩ := maxI_spec e
    exact ⟨.inr h1, h _ h1, h2⟩
theorem sortI_mem {ns : List Int} {x : Int} : x ∈ sortI ns ↔ x ∈ ns := (sortI_perm ns).mem_iff
theorem sortI_len {ns : List Int} : (sortI ns).length = ns.length := (sortI_perm ns).length_eq
@[simp] theorem oSorted_lst {ns : List Int} : oSorted [.lst (ns.map .int)] = some ((sortI ns).map .int) := by
  show Option.map _ ((seqOf (.lst (ns.map .int))).bind intsOf) = _
  rw [seq_lst, Option.bind_some, intsOf_map]
  rfl
/-! == of rows -/
theorem pys_ints : ∀ ns : List Int, pys (ns.map .int) = some (ns.map PyData.int)
  | [] => rfl
  | n :: r => by
    rw [List.map_cons, pys, pys_ints r]
    rfl
theorem cl_ints : ∀ ns : List Int, PyData.canLayAll0 (ns.map PyData.int) = true
  | [] => rfl
  | n :: r => by
    rw [List.map_cons, PyData.canLayAll0, cl_ints r]
    rfl
theorem dp_ints : ∀ ns : List Int, PyData.depthAll (ns.map PyData.int) = 0
  | [] => rfl
  | n :: r => by
    rw [List.map_cons, PyData.depthAll, dp_ints r]
    rfl
theorem ev_ints : ∀ a b : List Int, PyData.eqvAll (a.map PyData.int) (b.map PyData.int) = decide (a = b)
  | [], [] => rfl
  | [], _ :: _ => rfl
  | _ :: _, [] => rfl
  | x :: a, y :: b => by
    rw [List.map_cons, List.map_cons, PyData.eqvAll, ev_ints a b, PyData.eqv]
    by_cases h : x = y
    · subst h
      simp
    · simp [h]
theorem sh_tup (ns : List Int) : SeqAt.shaped (.tuple (ns.map .int)) = true := by
  unfold SeqAt.shaped
  rw [PyData.canLay0, PyData.depth, cl_ints, dp_ints]
  rfl
theorem sh_lst (ns : List Int) : SeqAt.shaped (.list (ns.map .int)) = true := by
  unfold SeqAt.shaped
  rw [PyData.canLay0, PyData.depth, cl_ints, dp_ints]
  rfl
theorem deq_sh {d e : D} {x y : PyData} (hd : py d = some x) (he : py e = some y) (sx : SeqAt.shaped x = true) (sy : SeqAt.shaped y = true) (hk : ∀ xs, x = .tuple xs ∨ x = .list xs → True) (h : (∃ xs, x = .tuple xs) ∨ ∃ xs, x = .list xs) : deq d e = some (PyData.eqv x y) := by
  have key : ((py d).bind fun x => (py e).bind fun y => if SeqAt.shaped x = true ∧ SeqAt.shaped y = true then some (PyData.eqv x y) else none) = some (PyData.eqv x y) := by
    rw [hd, Option.bind_some, he, Option.bind_some, if_pos ⟨sx, sy⟩]
  have nd : (∀ i, d ≠ .int i) ∧ (∀ i, d ≠ .str i) ∧ (∀ i, d ≠ .bl i) ∧ d ≠ .non := by
    refine ⟨fun i e => ?_, fun i e => ?_, fun i e => ?_, fun e => ?_⟩
    all_goals
      subst e
      simp only [py, Option.some.injEq] at hd
      subst hd
      rcases h with ⟨_, h⟩ | ⟨_, h⟩ <;> cases h
  unfold deq
  split
  · exact (nd.1 _ rfl).elim
  · exact (nd.2.1 _ rfl).elim
  · exact (nd.2.2.1 _ rfl).elim
  · exact (nd.2.2.2 rfl).elim
  · exact key
theorem py_tup (ns : List Int) : py (.tup (ns.map .int)) = some (.tuple (ns.map .int)) := by rw [py, pys_ints]; rfl
theorem py_lst (ns : List Int) : py (.lst (ns.map .int)) = some (.list (ns.map .int)) := by rw [py, pys_ints]; rfl
theorem deq_tups (a b : List Int) : deq (.tup (a.map .int)) (.tup (b.map .int)) = some (decide (a = b)) := by
  rw [deq_sh (py_tup a) (py_tup b) (sh_tup a) (sh_tup b) (fun _ _ => trivial) (.inl ⟨_, rfl⟩), PyData.eqv, ev_ints]
theorem deq_lsts (a b : List Int) : deq (.lst (a.map .int)) (.lst (b.map .int)) = some (decide (a = b)) := by
  rw [deq_sh (py_lst a) (py_lst b) (sh_lst a) (sh_lst b) (fun _ _ => trivial) (.inr ⟨_, rfl⟩), PyData.eqv, ev_ints]
@[simp] theorem oEq_tups (a b : List Int) : oEq (.tup (a.map .int)) (.tup (b.map .int)) = some (.bl (decide (a = b))) := by rw [oEq, deq_tups]; rfl
@[simp] theorem oNe_tups (a b : List Int) : oNe (.tup (a.map .int)) (.tup (b.map .int)) = some (.bl (!decide (a = b))) := by rw [oNe, deq_tups]; rfl
@[simp] theorem oEq_lsts (a b : List Int) : oEq (.lst (a.map .int)) (.lst (b.map .int)) = some (.bl (decide (a = b))) := by rw [oEq, deq_lsts]; rfl
@[simp] theorem oNe_lsts (a b : List Int) : oNe (.lst (a.map .int)) (.lst (b.map .int)) = some (.bl (!decide (a = b))) := by rw [oNe, deq_lsts]; rfl
theorem cell_at (ns : List Int) (k : Int) (hk : 0 ≤ k ∧ k ≤ 100000) : ∃ c : Int, cellF [.fl (ns.map .int), .int k] = .ok (.int c) := by
  obtain ⟨n, rfl⟩ := Int.eq_ofNat_of_zero_le hk.1
  exact cell_ok ns n (by omega)
def sto (ρ : Env) (i : Nat) (k : Int) (d : D) : Cell → Out
  | .own (.lst ds) => match ixN' ds.length k with
    | some j => .nx (ρ.set i (.own (.lst (ds.set j d))))
    | none => .stuck
  | _ => .stuck
theorem sto_pos {ρ : Env} {i : Nat} {k : Int} {d : D} {ds : List D} (h : 0 ≤ k ∧ k < (ds.length : Nat)) : sto ρ i k d (.own (.lst ds)) = .nx (ρ.set i (.own (.lst (ds.set k.toNat d)))) := by
  unfold sto ixN'
  dsimp only
  rw [if_pos h.1, if_pos h.2]
@[simp] theorem sSto_x {i ix f ρ} : sSto i ix f ρ = opt (asI (ix ρ)) fun k => opt (f ρ) fun d => sto ρ i k d (cellAt ρ i) := by
  unfold sSto
  cases asI (ix ρ) with
  | none =>
    show _ = Out.stuck
    split <;> simp_all
  | some k =>
    rw [opt_some]
    cases f ρ with
    | none =>
      show _ = Out.stuck
      split <;> simp_all
    | some d =>
      rw [opt_some]
      unfold sto
      cases cellAt ρ i with
      | own o => cases o <;> rfl
      | _ => rfl
end Fw

/-! FwH: keyword-only parameters; list(range(..)). -/
namespace Fw
open PySem PySem.Spec PyProof.Rows L2
/-- a scalar's value -/
def scV : D → Option V
  | .non => some .non
  | .int i => some (.int i)
  | .bl b => some (.bl b)
  | .str x => some (.str x)
  | _ => none
theorem scV_den {d : D} {v : V} (h : scV d = some v) {K : PySem.W.Frag} {cl : Nat → ClsT} {G : Hp} : Den K cl G d v := by
  cases d <;> simp only [scV, Option.some.injEq, reduceCtorEq] at h
  all_goals
    subst h
    simp only [Den]
structure AtK (K : PySem.W.Frag) (mg : Str → Option Value) (x : Str) (st : Stmt) (y : Str) (dv : V) : Prop where
  ex : ∃ (f : Addr) (fd : FuncData), mg x = some (.ref f) ∧ FunD K x x (defArgs st) (defBody st) (defScope st) [] [(y, dv)] f fd
/-- a def with one keyword-only parameter y, its default d -/
structure DefK (P : Program) (wd : World) (K : PySem.W.Frag) (mg : Str → Option Value) (base : Heap) (cl : Nat → ClsT) (k : Nat) (x : Str) (np : Nat) (y : Str) (d : D) (F : List D → Ret) : Prop where
  ex : ∃ (f : Addr) (fd : FuncData) (ps : List Str), mg x = some (.ref f) ∧ PySem.W.keepIn K (.ref f) = true ∧ (∃ v, scV d = some v ∧ ∃ ds, Vals [v] ds ∧ Binds K fd ps ds) ∧ (∃ g : List Value → List Value → List Value, KBn K fd ps np [y] g (fun vs zs => vs ++ zs)) ∧ FnOk P wd K mg base CX0 k f fd ps (spF K cl (np + 1) F)
theorem DefK.mono {P wd K mg base cl j k x np y d F} (h : DefK P wd K mg base cl j x np y d F) (hj : j ≤ k) : DefK P wd K mg base cl k x np y d F :=
  let ⟨f, fd, ps, a, b, c, e, o⟩ := h.ex
  ⟨f, fd, ps, a, b, c, e, o.mono hj⟩
section
variable {P : Program} {wd : World} {K : PySem.W.Frag} {mg : Str → Option Value} {base : Heap} {cl : Nat → ClsT} {x y : Str} {st : Stmt} {N ps : List Str} {k np : Nat} {d : D} {dv : V}
theorem kdef_of {F : Sf} (hd : scV d = some dv) (a : AtK K mg x st y dv) (S : FnScope N ps (defScope st)) (hn : ps.length = np + 1)
    (hb : ∀ (D : Addr) (doc pm : Value) (an : Option Addr) (cdv ct : Value) (us ks : List Value), us.length = np → ks.length = 1 → KwChain D ([y].zip ks) (bindArgs (PySem.W.fnOf x x (defArgs st) (defBody st) (defScope st) .none (.ref D) doc pm an cdv ct) ⟨us, []⟩) (ps.zip (us ++ ks)))
    (hk : ∀ (D : Addr) (doc pm : Value) (an : Option Addr) (cdv ct : Value) (us ws : List Value), us.length = np → ws.length = 1 → bindArgs (PySem.W.fnOf x x (defArgs st) (defBody st) (defScope st) .none (.ref D) doc pm an cdv ct) ⟨us, [y].zip ws⟩ = pure (ps.zip (us ++ ws)))
    (body : ∀ (f : Addr) (cdv : Value) (A : Around) (outer : List PySem.Env) (s : Shared) (H : Hp) (E : XK) (G0 H0 : Hp) (sf : Addr), Room k (A.deeper (envOfC x (defScope st) s.heap.objs.size f cdv)) →
      VSs ⟨cl, G0, H0, sf⟩ (XX P wd K mg base N x (defScope st) f cdv A outer s H E) (defBody st) F) : DefK P wd K mg base cl (k + 1) x np y d (runF N.length F) := by
  obtain ⟨f, fd, e, Fn⟩ := a.ex
  refine ⟨f, fd, ps, e, Fn.kp, ⟨dv, hd, ?_⟩, ?_, ?_⟩
  · exact Fn.binds0 np (fun z => nomatch z) (by rw [hn]; rfl) fun D doc pm an cdv ct us ks h1 h2 => hb D doc pm an cdv ct us ks h1 h2
  · obtain ⟨mv, z⟩ := Fn.kbinds0 (ps := ps) np [y] [] (fun us _ ws => us ++ ws) (fun z => nomatch z) (fun q hq => nomatch hq) (fun r1 _ r2 => r1.append r2) fun D doc pm an cdv ct us mv ws h1 h2 h3 => by
      obtain rfl : mv = [] := List.length_eq_zero_iff.mp h2
      exact hk D doc pm an cdv ct us ws h1 h3
    exact ⟨_, z⟩
  · rw [← hn]
    refine Fn.ok S (fun vs H Q E h => ?_) (fun cdv A outer s H vs Q E hr h => ?_)
    · obtain ⟨G, ds, _, h2, h3, _⟩ := h
      rw [h2.length, h3]
    · obtain ⟨G, ds, h1, h2, h3, h4⟩ := h
      have hpl : ps.length ≤ N.length := by
        have := congrArg List.length S.pre
        rw [List.length_take] at this
        omega
      exact ⟨_, (body f cdv A outer s H E G H 0 hr).nox, body_run (X := XX P wd K mg base N x (defScope st) f cdv A outer s H E) h1 h2 (by omega) h4⟩
end
section
variable {X : Cx} {w : Wd} {e e1 : Expr} {es : List Expr} {fs : Af} {g f : Ef} {pos p kp : Pos} {x y : Str} {k np : Nat} {d : D} {F : List D → Ret}
def eCallD (F : List D → Ret) (d : D) (fs : Af) : Ef := fun ρ => (fs ρ).bind fun ds => toD (F (ds ++ [d]))
def eCallK (F : List D → Ret) (fs : Af) (g : Ef) : Ef := fun ρ => (fs ρ).bind fun ds => (g ρ).bind fun d => toD (F (ds ++ [d]))
theorem ve_callKd (h : DefK X.prog X.w X.K X.mg X.base w.cl k x np y d F) (hr : Room k X.A) (hg : Gl X x) (ha : VA w X (e :: es) fs) (hn : ALen fs np)
    (hdb : (x == ("__debug__" : Str)) = false := by decide) (he : starEach (e :: es) X.env = (false, eval e X.env) :: starEach es X.env := by rfl) (hpl : (backTo pos (starEach es X.env)).any (·.1) = false := by rfl) :
    VE w X (.Call (.Name x p) (e :: es) [] pos) (eCallD F d fs) := by
  obtain ⟨f, fd, ps, a, b, ⟨v, hv, dvs, r0, c⟩, _, o⟩ := h.ex
  refine PE.imp (pe_call (E := E0) o hr hg a b c r0 pass0 ha hdb he hpl) fun σ H Q ⟨ρ, G, z, r, hf, q⟩ => ?_
  obtain ⟨ds, e1, e2⟩ := bind_some2 hf
  refine ⟨ρ, G, ds, r, e1, fun vs H1 G1 g1 z1 => ?_⟩
  exact ⟨G1, ds ++ [d], g1.sub, z1.append (Dens.cons (scV_den hv) Dens.nil), by rw [List.length_append, hn ρ ds e1]; rfl, retP_of e2 fun v H' G' g' z' => q v H' G' (g1.trans g') z'⟩
theorem ve_callK (h : DefK X.prog X.w X.K X.mg X.base w.cl k x np y d F) (hr : Room k X.A) (hg : Gl X x) (ha : VA w X (e :: es) fs) (hn : ALen fs np) (hv : VE w X e1 g)
    (hall : (backToKw pos (keywordEach [⟨some y, e1, kp⟩] X.env)).all (·.1.isSome) = true := by rfl) (hks : (backToKw pos (keywordEach [⟨some y, e1, kp⟩] X.env)).filterMap (·.1) = [y] := by rfl)
    (hdb : (x == ("__debug__" : Str)) = false := by decide) (he : starEach (e :: es) X.env = (false, eval e X.env) :: starEach es X.env := by rfl)
    (hpl : ((backTo pos (starEach (e :: es) X.env)).any (·.1) || (backToKw pos (keywordEach [⟨some y, e1, kp⟩] X.env)).any (·.1.isNone)) = false := by rfl) :
    VE w X (.Call (.Name x p) (e :: es) [⟨some y, e1, kp⟩] pos) (eCallK F fs g) := by
  obtain ⟨f, fd, ps, a, b, _, ⟨gg, kb⟩, o⟩ := h.ex
  refine PE.imp (pe_callN (E := E0) o hr hg a b kb pass0 ha (pk_cons hv pk_nil) hall hks hdb he hpl) fun σ H Q ⟨ρ, G, z, r, hf, q⟩ => ?_
  obtain ⟨ds, e1, hf⟩ := bind_some2 hf
  obtain ⟨d1, e2, e3⟩ := bind_some2 hf
  refine ⟨ρ, G, ds, r, e1, fun vs H1 G1 g1 z1 => ⟨ρ, G1, d1, r.go g1, e2, fun v H2 G2 g2 z2 => ?_⟩⟩
  refine ⟨by rw [z1.length, hn ρ ds e1], rfl, G2, ds ++ [d1], g2.sub, (z1.mono g2.gg).append (Dens.cons z2 Dens.nil), by rw [List.length_append, hn ρ ds e1]; rfl, retP_of e3 fun v H' G' g' z' => q v H' G' (g1.trans (g2.trans g')) z'⟩
@[simp] theorem eCallD_x {F d fs ρ} : eCallD F d fs ρ = (fs ρ).bind fun ds => toD (F (ds ++ [d])) := rfl
@[simp] theorem eCallK_x {F fs g ρ} : eCallK F fs g ρ = (fs ρ).bind fun ds => (g ρ).bind fun d => toD (F (ds ++ [d])) := rfl
/-! ### list(range(..)) -/
open Classical in
noncomputable def lr2 : D → D → Option (List D)
  | .int a, .int b => if RgOk a b then some (rangeD a (b - a).toNat) else none
  | _, _ => none
theorem lr2_some {a b : D} {zs : List D} (h : lr2 a b = some zs) : ∃ i j, a = .int i ∧ b = .int j ∧ RgOk i j ∧ zs = rangeD i (j - i).toNat := by
  unfold lr2 at h
  split at h
  · rename_i i j
    split at h
    · cases h
      exact ⟨i, j, rfl, rfl, by assumption, rfl⟩
    · cases h
  · cases h
theorem lr2_n {i j : Int} (h : -1000000 ≤ i ∧ i ≤ 1000000 ∧ -1000000 ≤ j ∧ j ≤ 1000000) : lr2 (.int i) (.int j) = some (rangeD i (j - i).toNat) :=
  if_pos ⟨by omega, by omega, by omega, by omega, by omega⟩
theorem dens_range {K : PySem.W.Frag} {cl : Nat → ClsT} {G : Hp} (a b : Int) : Dens K cl G (rangeD a (b - a).toNat) (rgV a b) := by
  unfold rangeD rgV
  generalize (b - a).toNat = n
  generalize List.range n = l
  induction l with
  | nil => exact Dens.nil
  | cons i r ih => exact Dens.cons mk_int ih
noncomputable def aLR1 (f : Ef) : Af := fun ρ => (f ρ).bind fun b => lr2 (.int 0) b
noncomputable def aLR2 (f g : Ef) : Af := fun ρ => (f ρ).bind fun a => (g ρ).bind fun b => lr2 a b
@[simp] theorem aLR1_x {f ρ} : aLR1 f ρ = (f ρ).bind fun b => lr2 (.int 0) b := rfl
@[simp] theorem aLR2_x {f g ρ} : aLR2 f g ρ = (f ρ).bind fun a => (g ρ).bind fun b => lr2 a b := rfl
theorem vf_listRg1 {p' pos' : Pos} (hc : X.calm = true) (hg : Gl X "list") (hm : X.mg "list" = none) (hg' : Gl X "range") (hm' : X.mg "range" = none) (ha : VO w X e f) (na' : starEach [e] X.env = (false, eval e X.env) :: starEach [] X.env := by rfl)
    (na : starEach [.Call (.Name "range" p') [e] [] pos'] X.env = (false, eval (.Call (.Name "range" p') [e] [] pos') X.env) :: starEach [] X.env := by rfl) : VF w X (.Call (.Name "list" p) [.Call (.Name "range" p') [e] [] pos'] [] pos) (aLR1 f) :=
  PE.imp (pe_listRg hc hg hm (prg_1 hg' hm' ha na') na) fun σ H Q ⟨ρ, G, zs, r, hf, q⟩ => by
    obtain ⟨b, e1, hf⟩ := bind_some2 hf
    obtain ⟨i, j, e2, rfl, ok, rfl⟩ := lr2_some hf
    cases e2
    refine seqO r e1 fun x H1 G1 g1 r1 z1 => ?_
    refine ⟨j, obs_int z1, ok, fun l hl => ?_⟩
    exact q l _ _ G1 (g1.trans (Grow.laidO g1.sub hl)) (g1.hh.free hl) upd_same (g1.sub.free hl) (dens_range 0 j)
theorem vf_listRg2 {e2 : Expr} {p' pos' : Pos} (hc : X.calm = true) (hg : Gl X "list") (hm : X.mg "list" = none) (hg' : Gl X "range") (hm' : X.mg "range" = none) (ha : VO w X e f) (hb : VO w X e2 g) (na' : starEach [e, e2] X.env = (false, eval e X.env) :: starEach [e2] X.env := by rfl)
    (nb' : starEach [e2] X.env = (false, eval e2 X.env) :: starEach [] X.env := by rfl) (hp : (backTo pos' (starEach [e2] X.env)).any (·.1) = false := by rfl)
    (na : starEach [.Call (.Name "range" p') [e, e2] [] pos'] X.env = (false, eval (.Call (.Name "range" p') [e, e2] [] pos') X.env) :: starEach [] X.env := by rfl) : VF w X (.Call (.Name "list" p) [.Call (.Name "range" p') [e, e2] [] pos'] [] pos) (aLR2 f g) :=
  PE.imp (pe_listRg hc hg hm (prg_2 hg' hm' ha hb na' nb' hp) na) fun σ H Q ⟨ρ, G, zs, r, hf, q⟩ => by
    obtain ⟨a, e1, hf⟩ := bind_some2 hf
    obtain ⟨b, e3, hf⟩ := bind_some2 hf
    obtain ⟨i, j, rfl, rfl, ok, rfl⟩ := lr2_some hf
    refine seqO r e1 fun x H1 G1 g1 r1 z1 => ?_
    refine seqO r1 e3 fun y H2 G2 g2 r2 z2 => ?_
    refine ⟨i, j, obs_int z1, obs_int z2, ok, fun l hl => ?_⟩
    have gg := g1.trans g2
    exact q l _ _ G2 (gg.trans (Grow.laidO gg.sub hl)) (gg.hh.free hl) upd_same (gg.sub.free hl) (dens_range i j)
end
end Fw

/-! FwI: loops that test, loops that break, == with itself, filters. -/
namespace Fw
open PySem PySem.Spec PyProof.Rows L2
theorem loop_test {t : Tg} {F : Sf} (I : Env → Prop) (p : D → Bool) {z : D} : ∀ {ds : List D} {ρ : Env}, I ρ → (∀ d ∈ ds, ∀ ρ, I ρ → ∃ ρ1, put t d ρ = some ρ1 ∧ ((p d = true ∧ ∃ ρ2, F ρ1 = .nx ρ2 ∧ I ρ2) ∨ (p d = false ∧ F ρ1 = .rt z))) →
    (ds.all p = true ∧ ∃ ρ', loopF t F ds ρ = .nx ρ' ∧ I ρ') ∨ (ds.all p = false ∧ loopF t F ds ρ = .rt z)
  | [], ρ, h0, _ => .inl ⟨rfl, ρ, rfl, h0⟩
  | d :: ds, ρ, h0, hs => by
    obtain ⟨ρ1, e1, h⟩ := hs d (List.mem_cons_self ..) ρ h0
    rcases h with ⟨hp, ρ2, e2, h2⟩ | ⟨hp, e2⟩
    · rcases loop_test I p (ds := ds) (ρ := ρ2) h2 (fun d hd => hs d (List.mem_cons_of_mem _ hd)) with ⟨ha, ρ', e3, h3⟩ | ⟨ha, e3⟩
      · exact .inl ⟨by rw [List.all_cons, hp, ha]; rfl, ρ', by rw [loop_cons, e1, opt_some, e2, turn_nx, e3], h3⟩
      · exact .inr ⟨by rw [List.all_cons, hp, ha]; rfl, by rw [loop_cons, e1, opt_some, e2, turn_nx, e3]⟩
    · exact .inr ⟨by rw [List.all_cons, hp]; rfl, by rw [loop_cons, e1, opt_some, e2, turn_rt]⟩
theorem loop_brk {t : Tg} {F : Sf} (I : Env → Prop) : ∀ {ds : List D} {ρ : Env}, I ρ → (∀ d ∈ ds, ∀ ρ, I ρ → ∃ ρ1, put t d ρ = some ρ1 ∧ ∃ ρ2, (F ρ1 = .nx ρ2 ∨ F ρ1 = .ct ρ2 ∨ F ρ1 = .bk ρ2) ∧ I ρ2) → ∃ ρ', loopF t F ds ρ = .nx ρ' ∧ I ρ'
  | [], ρ, h0, _ => ⟨ρ, rfl, h0⟩
  | d :: ds, ρ, h0, hs => by
    obtain ⟨ρ1, e1, ρ2, h, h2⟩ := hs d (List.mem_cons_self ..) ρ h0
    have ih := loop_brk I (t := t) (F := F) (ds := ds) (ρ := ρ2) h2 (fun d hd => hs d (List.mem_cons_of_mem _ hd))
    rcases h with e2 | e2 | e2
    · obtain ⟨ρ', e3, h3⟩ := ih
      exact ⟨ρ', by rw [loop_cons, e1, opt_some, e2, turn_nx, e3], h3⟩
    · obtain ⟨ρ', e3, h3⟩ := ih
      exact ⟨ρ', by rw [loop_cons, e1, opt_some, e2, turn_ct, e3], h3⟩
    · exact ⟨ρ2, by rw [loop_cons, e1, opt_some, e2, turn_bk], h2⟩
/-- plain data, at most n deep -/
def Simp : Nat → D → Prop
  | _, .int _ => True
  | _, .bl _ => True
  | _, .non => True
  | n + 1, .tup ds => ∀ x ∈ ds, Simp n x
  | n + 1, .lst ds => ∀ x ∈ ds, Simp n x
  | _, _ => False
theorem Simp.pys {n : Nat} : ∀ {ds : List D}, (∀ d ∈ ds, ∃ x, py d = some x ∧ x.canLay0 = true ∧ x.depth ≤ n) → ∃ xs, Fw.pys ds = some xs ∧ PyData.canLayAll0 xs = true ∧ PyData.depthAll xs ≤ n
  | [], _ => ⟨[], rfl, rfl, Nat.zero_le _⟩
  | d :: ds, h => by
    obtain ⟨x, e1, e2, e3⟩ := h d (List.mem_cons_self ..)
    obtain ⟨xs, f1, f2, f3⟩ := Simp.pys (ds := ds) fun d hd => h d (List.mem_cons_of_mem _ hd)
    refine ⟨x :: xs, ?_, ?_, ?_⟩
    · rw [Fw.pys, e1, Option.bind_some, f1]
      rfl
    · rw [PyData.canLayAll0, e2, f2]
      rfl
    · rw [PyData.depthAll]
      omega
theorem Simp.py : ∀ {n : Nat} {d : D}, Simp n d → ∃ x, py d = some x ∧ x.canLay0 = true ∧ x.depth ≤ n
  | n, .int i, _ => ⟨.int i, rfl, rfl, Nat.zero_le _⟩
  | n, .bl i, _ => ⟨.bool i, rfl, rfl, Nat.zero_le _⟩
  | n, .non, _ => ⟨.none, rfl, rfl, Nat.zero_le _⟩
  | n + 1, .tup ds, h => by
    obtain ⟨xs, f1, f2, f3⟩ := Simp.pys (n := n) (ds := ds) fun d hd => Simp.py (n := n) (d := d) (by
      have h' : ∀ x ∈ ds, Simp n x := by simpa only [Simp] using h
      exact h' d hd)
    refine ⟨.tuple xs, by rw [Fw.py, f1]; rfl, by rw [PyData.canLay0]; exact f2, by rw [PyData.depth]; omega⟩
  | n + 1, .lst ds, h => by
    obtain ⟨xs, f1, f2, f3⟩ := Simp.pys (n := n) (ds := ds) fun d hd => Simp.py (n := n) (d := d) (by
      have h' : ∀ x ∈ ds, Simp n x := by simpa only [Simp] using h
      exact h' d hd)
    refine ⟨.list xs, by rw [Fw.py, f1]; rfl, by rw [PyData.canLay0]; exact f2, by rw [PyData.depth]; omega⟩
  | 0, .tup _, h => by simp [Simp] at h
  | 0, .lst _, h => by simp [Simp] at h
  | 0, .str _, h => by simp [Simp] at h
  | n + 1, .str _, h => by simp [Simp] at h
  | 0, .fl _, h => by simp [Simp] at h
  | n + 1, .fl _, h => by simp [Simp] at h
  | 0, .ins _ _, h => by simp [Simp] at h
  | n + 1, .ins _ _, h => by simp [Simp] at h
  | 0, .dic _ _, h => by simp [Simp] at h
  | n + 1, .dic _ _, h => by simp [Simp] at h
  | 0, .ty _, h => by simp [Simp] at h
  | n + 1, .ty _, h => by simp [Simp] at h
theorem deq_self {d : D} (h : Simp 64 d) (hs : (∃ ds, d = .tup ds) ∨ ∃ ds, d = .lst ds) : deq d d = some true := by
  obtain ⟨x, e1, e2, e3⟩ := h.py
  have sh : SeqAt.shaped x = true := by
    unfold SeqAt.shaped
    rw [e2, decide_eq_true e3]
    rfl
  have hk : (∃ xs, x = .tuple xs) ∨ ∃ xs, x = .list xs := by
    rcases hs with ⟨ds, rfl⟩ | ⟨ds, rfl⟩
    · rw [py] at e1
      obtain ⟨xs, _, rfl⟩ := map_some2 e1
      exact .inl ⟨_, rfl⟩
    · rw [py] at e1
      obtain ⟨xs, _, rfl⟩ := map_some2 e1
      exact .inr ⟨_, rfl⟩
  rw [deq_sh e1 e1 sh sh (fun _ _ => trivial) hk, SeqAt.eqv_refl x e2]
theorem oEq_self {d : D} (h : Simp 64 d) (hs : (∃ ds, d = .tup ds) ∨ ∃ ds, d = .lst ds) : oEq d d = some (.bl true) := by
  rw [oEq, deq_self h hs]
  rfl
theorem oNe_self {d : D} (h : Simp 64 d) (hs : (∃ ds, d = .tup ds) ∨ ∃ ds, d = .lst ds) : oNe d d = some (.bl false) := by
  rw [oNe, deq_self h hs]
  rfl
theorem simp_ints {n : Nat} {ns : List Int} : ∀ x ∈ ns.map D.int, Simp n x := fun x hx => by
  obtain ⟨i, _, rfl⟩ := List.mem_map.mp hx
  cases n <;> trivial
theorem simp_tup {n : Nat} {ns : List Int} : Simp (n + 1) (.tup (ns.map .int)) := by
  simp only [Simp]
  exact simp_ints
theorem simp_lst {n : Nat} {ns : List Int} : Simp (n + 1) (.lst (ns.map .int)) := by
  simp only [Simp]
  exact simp_ints
theorem simp_rows {n : Nat} {rs : List (List Int)} : Simp (n + 2) (.tup (rs.map rowD)) := by
  simp only [Simp]
  intro x hx
  obtain ⟨r, _, rfl⟩ := List.mem_map.mp hx
  exact simp_tup
/-! comprehensions with a test -/
theorem comp_if_ints {i : Nat} {t : Tf} {f : Ef} {ρ : Env} {p : Int → Bool} {g : Int → D} {ns : List Int} (h1 : ∀ n ∈ ns, t (ρ.set i (.sh (.int n))) = some (p n)) (h2 : ∀ n ∈ ns, p n = true → f (ρ.set i (.sh (.int n))) = some (g n)) : compL (.nm i) t f (ns.map .int) ρ = some ((ns.filter p).map g) := by
  induction ns with
  | nil => rfl
  | cons n ns ih =>
    have ih := ih (fun m hm => h1 m (List.mem_cons_of_mem _ hm)) (fun m hm => h2 m (List.mem_cons_of_mem _ hm))
    rw [List.map_cons]
    show (put (.nm i) (.int n) ρ).bind _ = _
    rw [put_nm, Option.bind_some, h1 n (List.mem_cons_self ..), Option.bind_some]
    cases e : p n with
    | true =>
      rw [if_pos rfl, h2 n (List.mem_cons_self ..) e, Option.bind_some, ih, List.filter_cons_of_pos e]
      rfl
    | false =>
      rw [if_neg (by simp), ih, List.filter_cons_of_neg (by rw [e]; simp)]
/-- the ints lo .. as a list -/
def rg (n : Nat) : List Int := (List.range n).map fun i : Nat => (i : Int)
theorem rangeD_rg (n : Nat) : rangeD 0 n = (rg n).map .int := by
  unfold rangeD rg
  rw [List.map_map]
  refine List.map_congr_left fun i _ => ?_
  show D.int (0 + (i : Int)) = D.int (i : Int)
  rw [Int.zero_add]
theorem mem_rg {n : Nat} {v : Int} : v ∈ rg n ↔ 0 ≤ v ∧ v < n := by
  unfold rg
  rw [List.mem_map]
  constructor
  · rintro ⟨i, hi, rfl⟩
    have := List.mem_range.mp hi
    omega
  · intro h
    refine ⟨v.toNat, List.mem_range.mpr (by omega), by omega⟩
@[simp] theorem rg_len {n : Nat} : (rg n).length = n := by unfold rg; rw [List.length_map, List.length_range]
theorem rg_get {n i : Nat} {v : Int} (h : (rg n)[i]? = some v) : i < n ∧ v = i := by
  unfold rg at h
  rw [List.getElem?_map] at h
  obtain ⟨k, e1, e2⟩ := map_some2 h
  obtain ⟨hlt, e3⟩ := List.getElem?_eq_some_iff.mp e1
  rw [List.length_range] at hlt
  rw [List.getElem_range] at e3
  subst e3
  exact ⟨hlt, e2.symm⟩
theorem rg_get' {n i : Nat} (h : i < n) : (rg n)[i]? = some (i : Int) := by
  unfold rg
  rw [List.getElem?_map, List.getElem?_range h]
  rfl
theorem asc_filter {c : Int} {p : Int → Bool} : ∀ {l : List Int} {b : Int}, Asc c b l → Asc c b (l.filter p)
  | [], _, _ => trivial
  | v :: r, b, h => by
    have ih := asc_filter (p := p) (l := r) (b := v) h.2.2
    cases e : p v with
    | true =>
      rw [List.filter_cons_of_pos e]
      exact ⟨h.1, h.2.1, ih⟩
    | false =>
      rw [List.filter_cons_of_neg (by rw [e]; simp)]
      have weak : ∀ {l : List Int} {b b' : Int}, b' ≤ b → Asc c b l → Asc c b' l := fun {l b b'} hb h => by
        cases l with
        | nil => trivial
        | cons x r =>
          have h1 := h.1
          exact ⟨by omega, h.2.1, h.2.2⟩
      have h1 := h.1
      exact weak (by omega) ih
theorem asc_range {c : Int} : ∀ (n : Nat) (lo b : Int), b + 1 ≤ lo → lo + n ≤ c → Asc c b ((List.range n).map fun i => lo + (i : Nat))
  | 0, _, _, _, _ => trivial
  | n + 1, lo, b, h1, h2 => by
    rw [List.range_succ_eq_map, List.map_cons, List.map_map]
    refine ⟨by simp; omega, by simp; omega, ?_⟩
    have ih := asc_range (c := c) n (lo + 1) lo (by omega) (by omega)
    have e : ((fun i : Nat => lo + (i : Int)) ∘ Nat.succ) = fun i : Nat => lo + 1 + (i : Int) := by
      funext i
      show lo + ((i + 1 : Nat) : Int) = _
      omega
    rw [e]
    have e2 : lo + ((0 : Nat) : Int) = lo := by omega
    rw [e2]
    exact ih
theorem asc_rg (n : Nat) : Asc n (-1) (rg n) := by
  have := asc_range (c := n) n 0 (-1) (by omega) (by omega)
  have e : rg n = (List.range n).map fun i : Nat => (0 : Int) + (i : Nat) := by
    unfold rg
    refine List.map_congr_left fun i _ => ?_
    omega
  rw [e]
  exact this
theorem asc_mem {c : Int} : ∀ {l : List Int} {b : Int}, Asc c b l → ∀ v ∈ l, b + 1 ≤ v ∧ v ≤ c - 1
  | [], _, _, v, hv => nomatch hv
  | x :: r, b, h, v, hv => by
    rcases List.mem_cons.mp hv with rfl | hv
    · exact ⟨h.1, h.2.1⟩
    · have := asc_mem h.2.2 v hv
      have h1 := h.1
      omega
theorem asc_len {c : Int} : ∀ {l : List Int} {b : Int}, Asc c b l → (l.length : Int) ≤ c - 1 - b ∨ l = []
  | [], _, _ => .inr rfl
  | x :: r, b, h => by
    have h1 := h.1
    have h2 := h.2.1
    rcases asc_len h.2.2 with h | h
    · left
      rw [List.length_cons]
      omega
    · left
      rw [h]
      show ((0 + 1 : Nat) : Int) ≤ _
      omega
end Fw

/-! FwJ: a drawn graph. -/
namespace Fw
open PySem PySem.Spec PyProof.Rows L2
def m_graph : Sf :=
    (sSeq (sSet 4 (eCall digits2F (aCons (eCall cellF (aCons (eVar 0) (aCons (eVar 1) aNil))) (aCons (fL (aLst (aCons (eC (.int 2)) (aCons (eC (.int 4)) (aCons (eC (.int 3)) (aCons (eC (.int 2)) aNil)))))) aNil))))
    (sSeq (sSet 5 (eBin oIx (fL (aLst (aCons (eC (.int 2)) (aCons (eC (.int 3)) (aCons (eC (.int 5)) (aCons (eC (.int 9)) aNil)))))) (eBin oIx (eVar 4) (eC (.int 1)))))
    (sSeq (sIf (tAndF (tB1 (eBin oGt (eVar 2) (eC (.int 10)))) (tB1 (eBin oEq (eBin oIx (eVar 4) (eC (.int 3))) (eC (.int 0)))))
    (sSet 5 (eBin oMul (eC (.int 4)) (eVar 2)))
    sNext)
    (sSeq (sSetF 6 (aLst aNil))
    (sSeq (sSetF 7 (aLst aNil))
    (sSeq (sSetF 8 (aLst aNil))
    (sSeq (sFor (aRng1 (aCons (eVar 2) aNil)) (.nm 9)
    (sSeq (sSet 10 (eCall digits2F (aCons (eCall cellF (aCons (eVar 0) (aCons (eBin oAdd (eBin oAdd (eVar 1) (eC (.int 1))) (eVar 9)) aNil))) (aCons (fL (aBin oCatL (fL (aLst (aCons (eC (.int 2)) (aCons (eBin oAdd (eVar 3) (eC (.int 1))) (aCons (eVar 2) aNil))))) (fL (aComp (aRng1 (aCons (eVar 2) aNil)) (.nm 12) tYesF (eVar 5))))) aNil))))
    (sSeq (sSet 11 (fL (aComp (aRng1 (aCons (eVar 2) aNil)) (.nm 12) (tOrF (tB1 (eBin oEq (eBin oIx (eVar 10) (eBin oAdd (eC (.int 3)) (eVar 12))) (eC (.int 0)))) (tAndF (tB1 (eBin oEq (eBin oIx (eVar 4) (eC (.int 0))) (eC (.int 1)))) (tB1 (eBin oEq (eVar 12) (eBin oAdd (eVar 9) (eC (.int 1))))))) (eVar 12))))
    (sSeq (sIf (tB1 (eBin oEq (eArgs oLen (aCons (eVar 11) aNil)) (eC (.int 0))))
    (sSet 11 (fL (aLst (aCons (eBin oIx (eVar 10) (eC (.int 2))) aNil))))
    sNext)
    (sSeq (sApp 6 (eBin oIx (eVar 10) (eC (.int 0))))
    (sSeq (sApp 7 (eBin oIx (fL (aLst (aCons (eBin oIx (eVar 10) (eC (.int 1))) (aCons (eBin oIx (eVar 10) (eC (.int 1))) (aCons (eBin oMod (eArgs oToInt (aCons (eBin oIx (eVar 10) (eC (.int 1))) aNil)) (eC (.int 3))) aNil))))) (eBin oIx (eVar 4) (eC (.int 2)))))
    (sApp 8 (eVar 11))))))))
    (sFrz 8 (sFrz 7 (sFrz 6 (sRetF (aLst (aCons (eVar 6) (aCons (eVar 7) (aCons (eVar 8) aNil)))))))))))))))
def graphF : List D → Ret := runF 13 m_graph

theorem pick {l : List Int} {i : Int} (h : 0 ≤ i ∧ i < (l.length : Nat)) : ∃ z, ixD (l.map .int) i = some (.int z) ∧ z ∈ l := by
  obtain ⟨n, rfl⟩ := Int.eq_ofNat_of_zero_le h.1
  have hn : n < l.length := by omega
  exact ⟨l[n], by rw [ixD_nat, List.getElem?_map, List.getElem?_eq_getElem hn]; rfl, List.getElem_mem hn⟩
theorem at_int {l : List Int} {i : Nat} (h : i < l.length) : ixD (l.map .int) (i : Int) = some (.int l[i]) := by
  rw [ixD_nat, List.getElem?_map, List.getElem?_eq_getElem h]
  rfl
/-- what a drawn graph is: owners, priorities up to top, rows of ascending successors -/
structure GraphOk (n : Nat) (top : Int) (os ps : List Int) (ss : List (List Int)) : Prop where
  lo : os.length = n
  lp : ps.length = n
  ls : ss.length = n
  ow : ∀ o ∈ os, 0 ≤ o ∧ o ≤ 1
  pr : ∀ p ∈ ps, 0 ≤ p ∧ p ≤ top
  su : ∀ r ∈ ss, r ≠ [] ∧ r.length ≤ n ∧ ∃ c : Nat, c = n ∧ Asc c (-1) r
theorem graph_step (ns : List Int) (at_ : Int) (hat : 0 ≤ at_ ∧ at_ ≤ 1000) (n N : Nat) (hn : n ≤ 1000) (top : Int) (ht : 0 ≤ top ∧ top ≤ 1000) (h0 h1 h2 h3 : Int) (b2 : 0 ≤ h2 ∧ h2 < 3) (ch : Int) (hch : 0 < ch ∧ ch < 1000000) (v : Nat) (hv : v < n)
    (os ps : List Int) (ss : List (List Int)) (ho : os.length ≤ 1000) (hp : ps.length ≤ 1000) (hs : ss.length ≤ 1000) (c9 c10 c11 : Cell) :
    ∃ (o p : Int) (r : List Int) (x y z : Cell), 0 ≤ o ∧ o ≤ 1 ∧ 0 ≤ p ∧ p ≤ top ∧ r ≠ [] ∧ r.length ≤ n ∧ Asc n (-1) r ∧
    (sSeq (sSet 10 (eCall digits2F (aCons (eCall cellF (aCons (eVar 0) (aCons (eBin oAdd (eBin oAdd (eVar 1) (eC (.int 1))) (eVar 9)) aNil))) (aCons (fL (aBin oCatL (fL (aLst (aCons (eC (.int 2)) (aCons (eBin oAdd (eVar 3) (eC (.int 1))) (aCons (eVar 2) aNil))))) (fL (aComp (aRng1 (aCons (eVar 2) aNil)) (.nm 12) tYesF (eVar 5))))) aNil))))
    (sSeq (sSet 11 (fL (aComp (aRng1 (aCons (eVar 2) aNil)) (.nm 12) (tOrF (tB1 (eBin oEq (eBin oIx (eVar 10) (eBin oAdd (eC (.int 3)) (eVar 12))) (eC (.int 0)))) (tAndF (tB1 (eBin oEq (eBin oIx (eVar 4) (eC (.int 0))) (eC (.int 1)))) (tB1 (eBin oEq (eVar 12) (eBin oAdd (eVar 9) (eC (.int 1))))))) (eVar 12))))
    (sSeq (sIf (tB1 (eBin oEq (eArgs oLen (aCons (eVar 11) aNil)) (eC (.int 0))))
    (sSet 11 (fL (aLst (aCons (eBin oIx (eVar 10) (eC (.int 2))) aNil))))
    sNext)
    (sSeq (sApp 6 (eBin oIx (eVar 10) (eC (.int 0))))
    (sSeq (sApp 7 (eBin oIx (fL (aLst (aCons (eBin oIx (eVar 10) (eC (.int 1))) (aCons (eBin oIx (eVar 10) (eC (.int 1))) (aCons (eBin oMod (eArgs oToInt (aCons (eBin oIx (eVar 10) (eC (.int 1))) aNil)) (eC (.int 3))) aNil))))) (eBin oIx (eVar 4) (eC (.int 2)))))
    (sApp 8 (eVar 11))))))) [.sh (.fl (ns.map .int)), .sh (.int at_), .sh (.int n), .sh (.int top), .sh (.lst [.int h0, .int h1, .int h2, .int h3]), .sh (.int ch), .own (.lst (os.map .int)), .own (.lst (ps.map .int)), .own (.lst (ss.map rowL)), .sh (.int v), c10, c11, .no] =
      .nx [.sh (.fl (ns.map .int)), .sh (.int at_), .sh (.int n), .sh (.int top), .sh (.lst [.int h0, .int h1, .int h2, .int h3]), .sh (.int ch), .own (.lst ((os ++ [o]).map .int)), .own (.lst ((ps ++ [p]).map .int)), .own (.lst ((ss ++ [r]).map rowL)), x, y, z, .no] := by
  obtain ⟨c, ec⟩ := cell_at ns (at_ + 1 + (v : Int)) (by omega)
  obtain ⟨ds, ed, hl, hb⟩ := digits2_ok c ([2, top + 1, (n : Int)] ++ List.replicate n ch) (fun s hs => by
    rcases List.mem_append.mp hs with h | h
    · simp only [List.mem_cons, List.not_mem_nil, or_false] at h
      rcases h with rfl | rfl | rfl <;> omega
    · rw [List.eq_of_mem_replicate h]
      omega) (by rw [List.length_append, List.length_replicate]; simp; omega)
  obtain ⟨t0, t1, t2, rest, rfl⟩ : ∃ t0 t1 t2 rest, ds = t0 :: t1 :: t2 :: rest := by
    match ds, hl with
    | t0 :: t1 :: t2 :: rest, _ => exact ⟨_, _, _, _, rfl⟩
  have hrl : rest.length = n := by simpa using hl
  have u0 := hb 0 _ _ rfl rfl
  have u1 := hb 1 _ _ rfl rfl
  have u2 := hb 2 _ _ rfl rfl
  clear hb hl
  have hr := rng1_n (n := n) (by omega)
  have q1 : compL (.nm 12) tYesF (eVar 5) (rangeD 0 n) [.sh (.fl (ns.map .int)), .sh (.int at_), .sh (.int n), .sh (.int top), .sh (.lst [.int h0, .int h1, .int h2, .int h3]), .sh (.int ch), .own (.lst (os.map .int)), .own (.lst (ps.map .int)), .own (.lst (ss.map rowL)), .sh (.int v), c10, c11, .no] = some (List.replicate n (.int ch)) := by
    rw [comp_same (d := .int ch), rangeD_len]
    intro x hx
    simp -implicitDefEqProofs
  let p : Int → Bool := fun u => decide (rest.getD u.toNat 0 = 0) || (decide (h0 = 1) && decide (u = (v : Int) + 1))
  have q2 : compL (.nm 12) (tOrF (tB1 (eBin oEq (eBin oIx (eVar 10) (eBin oAdd (eC (.int 3)) (eVar 12))) (eC (.int 0)))) (tAndF (tB1 (eBin oEq (eBin oIx (eVar 4) (eC (.int 0))) (eC (.int 1)))) (tB1 (eBin oEq (eVar 12) (eBin oAdd (eVar 9) (eC (.int 1))))))) (eVar 12) (rangeD 0 n)
      [.sh (.fl (ns.map .int)), .sh (.int at_), .sh (.int n), .sh (.int top), .sh (.lst [.int h0, .int h1, .int h2, .int h3]), .sh (.int ch), .own (.lst (os.map .int)), .own (.lst (ps.map .int)), .own (.lst (ss.map rowL)), .sh (.int v), .sh (.lst (.int t0 :: .int t1 :: .int t2 :: rest.map .int)), c11, .no] = some (((rg n).filter p).map .int) := by
    rw [rangeD_rg]
    refine comp_if_ints (fun u hu => ?_) (fun u hu _ => ?_)
    · obtain ⟨k, rfl⟩ := Int.eq_ofNat_of_zero_le (mem_rg.mp hu).1
      have hk : k < rest.length := by
        have := (mem_rg.mp hu).2
        omega
      have e3 : (3 : Int) + (k : Int) = ((k + 1 + 1 + 1 : Nat) : Int) := by omega
      have eg : rest.getD k 0 = rest[k] := by
        rw [List.getD_eq_getElem?_getD, List.getElem?_eq_getElem hk]
        rfl
      have e4 : ixD (.int t0 :: .int t1 :: .int t2 :: rest.map .int) (3 + (k : Int)) = some (.int rest[k]) := by
        rw [e3, ixD_nat, List.getElem?_cons_succ, List.getElem?_cons_succ, List.getElem?_cons_succ, List.getElem?_map, List.getElem?_eq_getElem hk]
        rfl
      simp -implicitDefEqProofs only [p, Int.toNat_natCast, eg]
      by_cases g1 : rest[k] = 0
      · simp -implicitDefEqProofs [e4, g1]
      · by_cases g2 : h0 = 1
        · simp -implicitDefEqProofs [e4, g1, g2]
        · simp -implicitDefEqProofs [e4, g1, g2]
    · simp -implicitDefEqProofs
  clear_value p
  obtain ⟨pv, epv, hpv⟩ : ∃ pv : Int, ixD [.int t1, .int t1, .int (t1 % 3)] h2 = some (.int pv) ∧ 0 ≤ pv ∧ pv ≤ top := by
    have : h2 = 0 ∨ h2 = 1 ∨ h2 = 2 := by omega
    rcases this with rfl | rfl | rfl
    · exact ⟨t1, rfl, by omega⟩
    · exact ⟨t1, rfl, by omega⟩
    · exact ⟨t1 % 3, rfl, by omega⟩
  have hfl : ((rg n).filter p).length ≤ n := by
    have := List.length_filter_le p (rg n)
    rw [rg_len] at this
    exact this
  have hfa : Asc n (-1) ((rg n).filter p) := asc_filter (asc_rg n)
  generalize (rg n).filter p = tg at *
  have k1 : 3 + n ≤ 16777216 := by omega
  have k2 : n ≤ 16777216 := by omega
  have k3 : os.length < 16777216 := by omega
  have k4 : ps.length < 16777216 := by omega
  have k5 : ss.length < 16777216 := by omega
  simp only [List.map_append, List.map_cons, List.map_nil, List.map_replicate, List.cons_append, List.nil_append] at ed
  by_cases hf : tg = []
  · subst hf
    refine ⟨t0, pv, [t2], .sh (.int v), .sh (.lst (.int t0 :: .int t1 :: .int t2 :: rest.map .int)), .sh (.lst [.int t2]), u0.1, by omega, hpv.1, hpv.2, by simp, by simp; omega, ⟨by omega, by omega, trivial⟩, ?_⟩
    simp -implicitDefEqProofs [ec, ed, hr, q1, q2, k1, k2, k3, k4, k5, epv, rowL]
  · have hf2 : ¬ ((tg.length : Int) = 0) := by
      have := List.length_pos_iff.mpr hf
      omega
    refine ⟨t0, pv, tg, .sh (.int v), .sh (.lst (.int t0 :: .int t1 :: .int t2 :: rest.map .int)), .sh (.lst (tg.map .int)), u0.1, by omega, hpv.1, hpv.2, hf, hfl, hfa, ?_⟩
    simp -implicitDefEqProofs [ec, ed, hr, q1, q2, k1, k2, k3, k4, k5, epv, rowL, hf]
theorem graph_ok (ns : List Int) (at_ : Int) (hat : 0 ≤ at_ ∧ at_ ≤ 1000) (n : Nat) (hn : n ≤ 1000) (top : Int) (ht : 0 ≤ top ∧ top ≤ 1000) :
    ∃ os ps ss, GraphOk n top os ps ss ∧ graphF [.fl (ns.map .int), .int at_, .int n, .int top] = .fr (.lst [.lst (os.map .int), .lst (ps.map .int), .lst (ss.map rowL)]) := by
  obtain ⟨c, ec⟩ := cell_at ns at_ (by omega)
  obtain ⟨hd, ed, hl, hb⟩ := digits2_ok c [2, 4, 3, 2] (by decide) (by decide)
  obtain ⟨h0, h1, h2, h3, rfl⟩ : ∃ h0 h1 h2 h3, hd = [h0, h1, h2, h3] := by
    match hd, hl with
    | [h0, h1, h2, h3], _ => exact ⟨_, _, _, _, rfl⟩
  have b1 := hb 1 _ _ rfl rfl
  have b2 := hb 2 _ _ rfl rfl
  clear hb hl
  obtain ⟨w, ew, hw⟩ : ∃ w : Int, ixD [.int 2, .int 3, .int 5, .int 9] h1 = some (.int w) ∧ 0 < w ∧ w ≤ 9 := by
    have : h1 = 0 ∨ h1 = 1 ∨ h1 = 2 ∨ h1 = 3 := by omega
    rcases this with rfl | rfl | rfl | rfl
    · exact ⟨2, rfl, by decide⟩
    · exact ⟨3, rfl, by decide⟩
    · exact ⟨5, rfl, by decide⟩
    · exact ⟨9, rfl, by decide⟩
  have hr := rng1_n (n := n) (by omega)
  have loop : ∀ ch : Int, 0 < ch ∧ ch < 1000000 → ∃ os ps ss x y z, GraphOk n top os ps ss ∧ loopF (.nm 9) (sSeq (sSet 10 (eCall digits2F (aCons (eCall cellF (aCons (eVar 0) (aCons (eBin oAdd (eBin oAdd (eVar 1) (eC (.int 1))) (eVar 9)) aNil))) (aCons (fL (aBin oCatL (fL (aLst (aCons (eC (.int 2)) (aCons (eBin oAdd (eVar 3) (eC (.int 1))) (aCons (eVar 2) aNil))))) (fL (aComp (aRng1 (aCons (eVar 2) aNil)) (.nm 12) tYesF (eVar 5))))) aNil))))
    (sSeq (sSet 11 (fL (aComp (aRng1 (aCons (eVar 2) aNil)) (.nm 12) (tOrF (tB1 (eBin oEq (eBin oIx (eVar 10) (eBin oAdd (eC (.int 3)) (eVar 12))) (eC (.int 0)))) (tAndF (tB1 (eBin oEq (eBin oIx (eVar 4) (eC (.int 0))) (eC (.int 1)))) (tB1 (eBin oEq (eVar 12) (eBin oAdd (eVar 9) (eC (.int 1))))))) (eVar 12))))
    (sSeq (sIf (tB1 (eBin oEq (eArgs oLen (aCons (eVar 11) aNil)) (eC (.int 0))))
    (sSet 11 (fL (aLst (aCons (eBin oIx (eVar 10) (eC (.int 2))) aNil))))
    sNext)
    (sSeq (sApp 6 (eBin oIx (eVar 10) (eC (.int 0))))
    (sSeq (sApp 7 (eBin oIx (fL (aLst (aCons (eBin oIx (eVar 10) (eC (.int 1))) (aCons (eBin oIx (eVar 10) (eC (.int 1))) (aCons (eBin oMod (eArgs oToInt (aCons (eBin oIx (eVar 10) (eC (.int 1))) aNil)) (eC (.int 3))) aNil))))) (eBin oIx (eVar 4) (eC (.int 2)))))
    (sApp 8 (eVar 11))))))) (rangeD 0 n) [.sh (.fl (ns.map .int)), .sh (.int at_), .sh (.int n), .sh (.int top), .sh (.lst [.int h0, .int h1, .int h2, .int h3]), .sh (.int ch), .own (.lst []), .own (.lst []), .own (.lst []), .no, .no, .no, .no] =
      .nx [.sh (.fl (ns.map .int)), .sh (.int at_), .sh (.int n), .sh (.int top), .sh (.lst [.int h0, .int h1, .int h2, .int h3]), .sh (.int ch), .own (.lst (os.map .int)), .own (.lst (ps.map .int)), .own (.lst (ss.map rowL)), x, y, z, .no] := fun ch hch => by
    obtain ⟨ρ', e, os, ps, ss, x, y, z, rfl, g⟩ := loop_inv (t := .nm 9) (F := (sSeq (sSet 10 (eCall digits2F (aCons (eCall cellF (aCons (eVar 0) (aCons (eBin oAdd (eBin oAdd (eVar 1) (eC (.int 1))) (eVar 9)) aNil))) (aCons (fL (aBin oCatL (fL (aLst (aCons (eC (.int 2)) (aCons (eBin oAdd (eVar 3) (eC (.int 1))) (aCons (eVar 2) aNil))))) (fL (aComp (aRng1 (aCons (eVar 2) aNil)) (.nm 12) tYesF (eVar 5))))) aNil))))
    (sSeq (sSet 11 (fL (aComp (aRng1 (aCons (eVar 2) aNil)) (.nm 12) (tOrF (tB1 (eBin oEq (eBin oIx (eVar 10) (eBin oAdd (eC (.int 3)) (eVar 12))) (eC (.int 0)))) (tAndF (tB1 (eBin oEq (eBin oIx (eVar 4) (eC (.int 0))) (eC (.int 1)))) (tB1 (eBin oEq (eVar 12) (eBin oAdd (eVar 9) (eC (.int 1))))))) (eVar 12))))
    (sSeq (sIf (tB1 (eBin oEq (eArgs oLen (aCons (eVar 11) aNil)) (eC (.int 0))))
    (sSet 11 (fL (aLst (aCons (eBin oIx (eVar 10) (eC (.int 2))) aNil))))
    sNext)
    (sSeq (sApp 6 (eBin oIx (eVar 10) (eC (.int 0))))
    (sSeq (sApp 7 (eBin oIx (fL (aLst (aCons (eBin oIx (eVar 10) (eC (.int 1))) (aCons (eBin oIx (eVar 10) (eC (.int 1))) (aCons (eBin oMod (eArgs oToInt (aCons (eBin oIx (eVar 10) (eC (.int 1))) aNil)) (eC (.int 3))) aNil))))) (eBin oIx (eVar 4) (eC (.int 2)))))
    (sApp 8 (eVar 11)))))))) (ds := rangeD 0 n) (ρ := [.sh (.fl (ns.map .int)), .sh (.int at_), .sh (.int n), .sh (.int top), .sh (.lst [.int h0, .int h1, .int h2, .int h3]), .sh (.int ch), .own (.lst []), .own (.lst []), .own (.lst []), .no, .no, .no, .no])
      (fun i ρ => ∃ (os ps : List Int) (ss : List (List Int)) (x y z : Cell), ρ = [.sh (.fl (ns.map .int)), .sh (.int at_), .sh (.int n), .sh (.int top), .sh (.lst [.int h0, .int h1, .int h2, .int h3]), .sh (.int ch), .own (.lst (os.map .int)), .own (.lst (ps.map .int)), .own (.lst (ss.map rowL)), x, y, z, .no] ∧
        os.length = i ∧ ps.length = i ∧ ss.length = i ∧ (∀ o ∈ os, 0 ≤ o ∧ o ≤ 1) ∧ (∀ p ∈ ps, 0 ≤ p ∧ p ≤ top) ∧ (∀ r ∈ ss, r ≠ [] ∧ r.length ≤ n ∧ ∃ c : Nat, c = n ∧ Asc c (-1) r))
      ⟨[], [], [], .no, .no, .no, rfl, rfl, rfl, rfl, (fun o h => nomatch h), (fun o h => nomatch h), (fun o h => nomatch h)⟩ (by
      rintro i d _ hi ⟨os, ps, ss, x, y, z, rfl, l1, l2, l3, a1, a2, a3⟩
      obtain ⟨hi2, rfl⟩ := rangeD_get hi
      obtain ⟨o, p, r, x', y', z', o1, o2, p1, p2, r1, r2, r3, est⟩ := graph_step ns at_ hat n 0 hn top ht h0 h1 h2 h3 b2 ch hch i hi2 os ps ss (by omega) (by omega) (by omega) x y z
      rw [Int.zero_add]
      refine ⟨_, rfl, _, .inl est, os ++ [o], ps ++ [p], ss ++ [r], x', y', z', rfl, ?_⟩
      refine ⟨by simp [l1], by simp [l2], by simp [l3], fun q hq => ?_, fun q hq => ?_, fun q hq => ?_⟩
      · rcases List.mem_append.mp hq with h | h
        · exact a1 q h
        · rw [List.mem_singleton.mp h]
          exact ⟨o1, o2⟩
      · rcases List.mem_append.mp hq with h | h
        · exact a2 q h
        · rw [List.mem_singleton.mp h]
          exact ⟨p1, p2⟩
      · rcases List.mem_append.mp hq with h | h
        · exact a3 q h
        · rw [List.mem_singleton.mp h]
          exact ⟨r1, r2, n, rfl, r3⟩)
    rw [rangeD_len] at g
    exact ⟨os, ps, ss, x, y, z, ⟨g.1, g.2.1, g.2.2.1, g.2.2.2.1, g.2.2.2.2.1, g.2.2.2.2.2⟩, e⟩
  by_cases hb : 10 < (n : Int) ∧ h3 = 0
  · obtain ⟨os, ps, ss, x, y, z, g, e⟩ := loop (4 * n) (by omega)
    refine ⟨os, ps, ss, g, ?_⟩
    have hb1 : 10 < n := by omega
    simp only [List.map_cons, List.map_nil] at ed
    simp -implicitDefEqProofs [graphF, runF, m_graph, startR, ec, ed, ew, hb.1, hb1, hb.2, hr, g.lo, g.lp, g.ls]
    rw [hb.2] at e
    simp -implicitDefEqProofs [e]
  · obtain ⟨os, ps, ss, x, y, z, g, e⟩ := loop w (by omega)
    refine ⟨os, ps, ss, g, ?_⟩
    simp only [List.map_cons, List.map_nil] at ed
    by_cases hb1 : 10 < n
    · have hb2 : ¬ h3 = 0 := by omega
      simp -implicitDefEqProofs [graphF, runF, m_graph, startR, ec, ed, ew, hb1, hb2, hr]
      simp -implicitDefEqProofs [e]
    · have hb3 : ¬ (10 < (n : Int)) := by omega
      simp -implicitDefEqProofs [graphF, runF, m_graph, startR, ec, ed, ew, hb1, hb3, hr]
      simp -implicitDefEqProofs [e]
end Fw

namespace Lw
open PySem PySem.Spec PyProof.Rows L2 Fw
noncomputable section
def top (i : Nat) : Stmt := PySem.Challenge.pw_holdsalltrees_k35_traps.main.body.getD i (.Pass ⟨0, 0, 0, 0⟩)
structure Ks (K : PySem.W.Frag) (cl : Nat → ClsT) : Prop where
  k_Game : ClsOk K (cl 0) ["owners", "priorities", "successors", "height"]

/-! flags_of -/
abbrev s_flags_of : Stmt := top 2
abbrev N_flags_of : List Str := ["count", "vertices", "flags", "vertex"]
theorem sc_flags_of : FnScope N_flags_of ["count", "vertices"] (defScope s_flags_of) := ⟨rfl, rfl, rfl, by decide +kernel, rfl, by decide +kernel, by decide +kernel⟩
def m_flags_of : Sf :=
    (sSeq (sSetF 2 (aBin oRepL (fL (aLst (aCons (eC (.bl false)) aNil))) (eVar 0)))
    (sSeq (sFor (aItems (eVar 1)) (.nm 3)
    (sSto 2 (eVar 3) (eC (.bl true))))
    (sRetV 2)))
def F_flags_of : List D → Ret := runF 4 m_flags_of
theorem b_flags_of {P : Program} {wd : World} {K : PySem.W.Frag} {mg : Str → Option Value} {base : Heap} {cl : Nat → ClsT} {k : Nat} (B : Bt mg) (kk : Ks K cl)
    {f : Addr} {cdv : Value} {A : Around} {outer : List PySem.Env} {s : Shared} {H : Hp} {E : XK} {G0 H0 : Hp} {sf : Addr} (hr : Room k (A.deeper (envOfC "flags_of" (defScope s_flags_of) s.heap.objs.size f cdv))) :
    VSs ⟨cl, G0, H0, sf⟩ (XX P wd K mg base N_flags_of "flags_of" (defScope s_flags_of) f cdv A outer s H E) (defBody s_flags_of) (m_flags_of) := by
  have hr0 := hr
  have hu : (XX P wd K mg base N_flags_of "flags_of" (defScope s_flags_of) f cdv A outer s H E).A.units + 64 < cLine := hr.units
  have nd : (XX P wd K mg base N_flags_of "flags_of" (defScope s_flags_of) f cdv A outer s H E).N.Nodup := sc_flags_of.nd
  have v0 : ∀ pos, PE (XX P wd K mg base N_flags_of "flags_of" (defScope s_flags_of) f cdv A outer s H E) (.Name "count" pos) (tVar 0) := fun _ => pv 0
  have v1 : ∀ pos, PE (XX P wd K mg base N_flags_of "flags_of" (defScope s_flags_of) f cdv A outer s H E) (.Name "vertices" pos) (tVar 1) := fun _ => pv 1
  have v2 : ∀ pos, PE (XX P wd K mg base N_flags_of "flags_of" (defScope s_flags_of) f cdv A outer s H E) (.Name "flags" pos) (tVar 2) := fun _ => pv 2
  have v3 : ∀ pos, PE (XX P wd K mg base N_flags_of "flags_of" (defScope s_flags_of) f cdv A outer s H E) (.Name "vertex" pos) (tVar 3) := fun _ => pv 3
  exact (vss_cons (vs_setF nd rfl (.inl rfl) (vf_bin op_rep r_repL (toO (ofF (vf_lst (va_cons ve_bl va_nil)))) (toO (ve_var (v0 _)))))
    (vss_cons (vs_for PassesOwn.never rfl (vi_items (ve_var (v1 _))) (vg_nm nd rfl (.inl rfl))
    (vss_one (vs_sto (v2 _) (ve_var (v3 _)) ve_bl)))
    (vss_one (vs_retV (v2 _)))))
theorem d_flags_of {P : Program} {wd : World} {K : PySem.W.Frag} {mg : Str → Option Value} {base : Heap} {cl : Nat → ClsT} (B : Bt mg) (kk : Ks K cl) (a_flags_of : At K mg "flags_of" s_flags_of) : Def P wd K mg base cl 1 "flags_of" 2 F_flags_of :=
  def_of a_flags_of sc_flags_of (fun _ _ F => F.binds (ps := ["count", "vertices"]) fun _ _ _ _ _ _ us hl => match us, hl with | [_, _], _ => rfl) fun f cdv A outer s H E G0 H0 sf hr => b_flags_of (k := 0) B kk hr

/-! Game.__len__ -/
abbrev s_Game_len : Stmt := inClass (top 14) 1
abbrev N_Game_len : List Str := ["self"]
theorem sc_Game_len : FnScope N_Game_len ["self"] (defScope s_Game_len) := ⟨rfl, rfl, rfl, by decide +kernel, rfl, by decide +kernel, by decide +kernel⟩
def m_Game_len : Sf :=
    (sRet (eArgs oLen (aCons (e1o (oFld 0 0) (eVar 0)) aNil)))
def F_Game_len : List D → Ret := runF 1 m_Game_len
theorem b_Game_len {P : Program} {wd : World} {K : PySem.W.Frag} {mg : Str → Option Value} {base : Heap} {cl : Nat → ClsT} {k : Nat} (B : Bt mg) (kk : Ks K cl)
    {f : Addr} {cdv : Value} {A : Around} {outer : List PySem.Env} {s : Shared} {H : Hp} {E : XK} {G0 H0 : Hp} {sf : Addr} (hr : Room k (A.deeper (envOfC "Game.__len__" (defScope s_Game_len) s.heap.objs.size f cdv))) :
    VSs ⟨cl, G0, H0, sf⟩ (XX P wd K mg base N_Game_len "Game.__len__" (defScope s_Game_len) f cdv A outer s H E) (defBody s_Game_len) (m_Game_len) := by
  have hr0 := hr
  have hu : (XX P wd K mg base N_Game_len "Game.__len__" (defScope s_Game_len) f cdv A outer s H E).A.units + 64 < cLine := hr.units
  have nd : (XX P wd K mg base N_Game_len "Game.__len__" (defScope s_Game_len) f cdv A outer s H E).N.Nodup := sc_Game_len.nd
  have v0 : ∀ pos, PE (XX P wd K mg base N_Game_len "Game.__len__" (defScope s_Game_len) f cdv A outer s H E) (.Name "self" pos) (tVar 0) := fun _ => pv 0
  exact (vss_one (vs_ret (ve_callB call_len r_len (by rfl) B.len (by decide +kernel) (vo_cons (toO (ve_fld kk.k_Game 0 rfl (toO (ve_var (v0 _))))) vo_nil))))
theorem d_Game_len {P : Program} {wd : World} {K : PySem.W.Frag} {mg : Str → Option Value} {base : Heap} {cl : Nat → ClsT} (B : Bt mg) (kk : Ks K cl) (a_Game_len : AtM K (cl 0).addr "__len__" "Game.__len__" s_Game_len) : MtD P wd K mg base cl 1 0 "__len__" 1 F_Game_len :=
  meth_of a_Game_len sc_Game_len (fun _ _ F => F.binds (ps := ["self"]) fun _ _ _ _ _ _ us hl => match us, hl with | [_], _ => rfl) fun f cdv A outer s H E G0 H0 sf hr => b_Game_len (k := 0) B kk hr

/-! flags_within -/
abbrev s_flags_within : Stmt := top 3
abbrev N_flags_within : List Str := ["game", "within"]
theorem sc_flags_within : FnScope N_flags_within ["game", "within"] (defScope s_flags_within) := ⟨rfl, rfl, rfl, by decide +kernel, rfl, by decide +kernel, by decide +kernel⟩
def m_flags_within : Sf :=
    (sSeq (sIf (tB1 (eBin oIsN (eVar 1) (eC .non)))
    (sRetF (aBin oRepL (fL (aLst (aCons (eC (.bl true)) aNil))) (eArgs (oLenO 0 F_Game_len) (aCons (eVar 0) aNil))))
    sNext)
    (sRet (eCall F_flags_of (aCons (eArgs (oLenO 0 F_Game_len) (aCons (eVar 0) aNil)) (aCons (eVar 1) aNil)))))
def F_flags_within : List D → Ret := runF 2 m_flags_within
theorem b_flags_within {P : Program} {wd : World} {K : PySem.W.Frag} {mg : Str → Option Value} {base : Heap} {cl : Nat → ClsT} {k : Nat} (B : Bt mg) (kk : Ks K cl) (c_Game_len : MtD P wd K mg base cl k 0 "__len__" 1 F_Game_len) (c_flags_of : Def P wd K mg base cl k "flags_of" 2 F_flags_of)
    {f : Addr} {cdv : Value} {A : Around} {outer : List PySem.Env} {s : Shared} {H : Hp} {E : XK} {G0 H0 : Hp} {sf : Addr} (hr : Room (k + 1) (A.deeper (envOfC "flags_within" (defScope s_flags_within) s.heap.objs.size f cdv))) :
    VSs ⟨cl, G0, H0, sf⟩ (XX P wd K mg base N_flags_within "flags_within" (defScope s_flags_within) f cdv A outer s H E) (defBody s_flags_within) (m_flags_within) := by
  have hr0 := hr.mono (Nat.le_succ k)
  have hu : (XX P wd K mg base N_flags_within "flags_within" (defScope s_flags_within) f cdv A outer s H E).A.units + 64 < cLine := hr.units
  have nd : (XX P wd K mg base N_flags_within "flags_within" (defScope s_flags_within) f cdv A outer s H E).N.Nodup := sc_flags_within.nd
  have v0 : ∀ pos, PE (XX P wd K mg base N_flags_within "flags_within" (defScope s_flags_within) f cdv A outer s H E) (.Name "game" pos) (tVar 0) := fun _ => pv 0
  have v1 : ∀ pos, PE (XX P wd K mg base N_flags_within "flags_within" (defScope s_flags_within) f cdv A outer s H E) (.Name "within" pos) (tVar 1) := fun _ => pv 1
  exact (vss_cons (vs_if (vt_cmp op_isN r_isN (toO (ve_var (v1 _))) (toO ve_non) (nomark _))
    (vss_one (vs_retF (vf_bin op_rep r_repL (toO (ofF (vf_lst (va_cons ve_bl va_nil)))) (toO (ve_lenO c_Game_len hr (by rfl) B.len (toO (ve_var (v0 _))))))))
    vss_nil)
    (vss_one (vs_ret (ve_call c_flags_of hr0 (by rfl) (va_cons (ve_lenO c_Game_len hr (by rfl) B.len (toO (ve_var (v0 _)))) (va_cons (ve_var (v1 _)) va_nil)) (alen_cons (alen_cons alen_nil))))))
theorem d_flags_within {P : Program} {wd : World} {K : PySem.W.Frag} {mg : Str → Option Value} {base : Heap} {cl : Nat → ClsT} (B : Bt mg) (kk : Ks K cl) (a_flags_within : At K mg "flags_within" s_flags_within) (c_Game_len : MtD P wd K mg base cl 1 0 "__len__" 1 F_Game_len) (c_flags_of : Def P wd K mg base cl 1 "flags_of" 2 F_flags_of) : Def P wd K mg base cl 3 "flags_within" 2 F_flags_within :=
  def_of a_flags_within sc_flags_within (fun _ _ F => F.binds (ps := ["game", "within"]) fun _ _ _ _ _ _ us hl => match us, hl with | [_, _], _ => rfl) fun f cdv A outer s H E G0 H0 sf hr => b_flags_within (k := 1) B kk (c_Game_len.mono (by decide)) (c_flags_of.mono (by decide)) hr

/-! is_trap -/
abbrev s_is_trap : Stmt := top 4
abbrev N_is_trap : List Str := ["game", "player", "vertices", "within", "inside", "trapped", "vertex", "moves", "staying", "target"]
theorem sc_is_trap : FnScope N_is_trap ["game", "player", "vertices", "within"] (defScope s_is_trap) := ⟨rfl, rfl, rfl, by decide +kernel, rfl, by decide +kernel, by decide +kernel⟩
def m_is_trap : Sf :=
    (sSeq (sSet 4 (eCall F_flags_within (aCons (eVar 0) (aCons (eVar 3) aNil))))
    (sSeq (sSet 5 (eCall F_flags_of (aCons (eArgs (oLenO 0 F_Game_len) (aCons (eVar 0) aNil)) (aCons (eVar 2) aNil))))
    (sSeq (sFor (aItems (eVar 2)) (.nm 6)
    (sSeq (sSet 7 (fL (aComp (aItems (eBin oIx (e1o (oFld 0 2) (eVar 0)) (eVar 6))) (.nm 9) (tB1 (eBin oIx (eVar 4) (eVar 9))) (eVar 9))))
    (sSeq (sSet 8 (fL (aComp (aItems (eVar 7)) (.nm 9) (tB1 (eBin oIx (eVar 5) (eVar 9))) (eVar 9))))
    (sSeq (sIf (tAndF (tB1 (eBin oEq (eBin oIx (e1o (oFld 0 0) (eVar 0)) (eVar 6)) (eVar 1))) (tB1 (eBin oLt (eArgs oLen (aCons (eVar 8) aNil)) (eArgs oLen (aCons (eVar 7) aNil)))))
    (sRet (eC (.bl false)))
    sNext)
    (sIf (tAndF (tB1 (eBin oNe (eBin oIx (e1o (oFld 0 0) (eVar 0)) (eVar 6)) (eVar 1))) (tB1 (eBin oEq (eArgs oLen (aCons (eVar 8) aNil)) (eC (.int 0)))))
    (sRet (eC (.bl false)))
    sNext)))))
    (sRet (eC (.bl true))))))
def F_is_trap : List D → Ret := runF 10 m_is_trap
theorem b_is_trap {P : Program} {wd : World} {K : PySem.W.Frag} {mg : Str → Option Value} {base : Heap} {cl : Nat → ClsT} {k : Nat} (B : Bt mg) (kk : Ks K cl) (c_flags_within : Def P wd K mg base cl k "flags_within" 2 F_flags_within) (c_flags_of : Def P wd K mg base cl k "flags_of" 2 F_flags_of) (c_Game_len : MtD P wd K mg base cl k 0 "__len__" 1 F_Game_len)
    {f : Addr} {cdv : Value} {A : Around} {outer : List PySem.Env} {s : Shared} {H : Hp} {E : XK} {G0 H0 : Hp} {sf : Addr} (hr : Room (k + 1) (A.deeper (envOfC "is_trap" (defScope s_is_trap) s.heap.objs.size f cdv))) :
    VSs ⟨cl, G0, H0, sf⟩ (XX P wd K mg base N_is_trap "is_trap" (defScope s_is_trap) f cdv A outer s H E) (defBody s_is_trap) (m_is_trap) := by
  have hr0 := hr.mono (Nat.le_succ k)
  have hu : (XX P wd K mg base N_is_trap "is_trap" (defScope s_is_trap) f cdv A outer s H E).A.units + 64 < cLine := hr.units
  have nd : (XX P wd K mg base N_is_trap "is_trap" (defScope s_is_trap) f cdv A outer s H E).N.Nodup := sc_is_trap.nd
  have v0 : ∀ pos, PE (XX P wd K mg base N_is_trap "is_trap" (defScope s_is_trap) f cdv A outer s H E) (.Name "game" pos) (tVar 0) := fun _ => pv 0
  have v1 : ∀ pos, PE (XX P wd K mg base N_is_trap "is_trap" (defScope s_is_trap) f cdv A outer s H E) (.Name "player" pos) (tVar 1) := fun _ => pv 1
  have v2 : ∀ pos, PE (XX P wd K mg base N_is_trap "is_trap" (defScope s_is_trap) f cdv A outer s H E) (.Name "vertices" pos) (tVar 2) := fun _ => pv 2
  have v3 : ∀ pos, PE (XX P wd K mg base N_is_trap "is_trap" (defScope s_is_trap) f cdv A outer s H E) (.Name "within" pos) (tVar 3) := fun _ => pv 3
  have v6 : ∀ pos, PE (XX P wd K mg base N_is_trap "is_trap" (defScope s_is_trap) f cdv A outer s H E) (.Name "vertex" pos) (tVar 6) := fun _ => pv 6
  have v7 : ∀ pos, PE (XX P wd K mg base N_is_trap "is_trap" (defScope s_is_trap) f cdv A outer s H E) (.Name "moves" pos) (tVar 7) := fun _ => pv 7
  have v8 : ∀ pos, PE (XX P wd K mg base N_is_trap "is_trap" (defScope s_is_trap) f cdv A outer s H E) (.Name "staying" pos) (tVar 8) := fun _ => pv 8
  exact (vss_cons (vs_set nd rfl (.inr rfl) (ve_call c_flags_within hr0 (by rfl) (va_cons (ve_var (v0 _)) (va_cons (ve_var (v3 _)) va_nil)) (alen_cons (alen_cons alen_nil))))
    (vss_cons (vs_set nd rfl (.inr rfl) (ve_call c_flags_of hr0 (by rfl) (va_cons (ve_lenO c_Game_len hr (by rfl) B.len (toO (ve_var (v0 _)))) (va_cons (ve_var (v2 _)) va_nil)) (alen_cons (alen_cons alen_nil))))
    (vss_cons (vs_for PassesOwn.never rfl (vi_items (ve_var (v2 _))) (vg_nm nd rfl (.inl rfl))
    (vss_cons (vs_setCs rfl nd rfl rfl (sw_true rfl rfl rfl (by decide +kernel)) (vi_items (ve_ix (toO (ve_fld kk.k_Game 2 rfl (toO (ve_var (v0 _))))) (toO (ve_var (v6 _))) (fun _ _ => rfl))) (blkOk_by (own := [("target", 9)]) (N := N_is_trap) (sc := (defScope s_is_trap)) (by decide +kernel)) rfl (fun _ _ _ _ _ => (vg_nm nd rfl (by first | exact .inl rfl | exact .inr rfl))) (fun _ _ _ _ _ => (vts_one (vt_val (ve_ix (toO (ve_var (pv 4))) (toO (ve_var (pv 9))) (fun _ _ => rfl))))) (fun _ _ _ _ _ => (ve_var (pv 9))))
    (vss_cons (vs_setCs rfl nd rfl rfl (sw_true rfl rfl rfl (by decide +kernel)) (vi_items (ve_var (v7 _))) (blkOk_by (own := [("target", 9)]) (N := N_is_trap) (sc := (defScope s_is_trap)) (by decide +kernel)) rfl (fun _ _ _ _ _ => (vg_nm nd rfl (by first | exact .inl rfl | exact .inr rfl))) (fun _ _ _ _ _ => (vts_one (vt_val (ve_ix (toO (ve_var (pv 5))) (toO (ve_var (pv 9))) (fun _ _ => rfl))))) (fun _ _ _ _ _ => (ve_var (pv 9))))
    (vss_cons (vs_if (vt_w (vw_and (vt_cmp (op_eqB hu) r_eq (toO (ve_ix (toO (ve_fld kk.k_Game 0 rfl (toO (ve_var (v0 _))))) (toO (ve_var (v6 _))) (fun _ _ => rfl))) (toO (ve_var (v1 _))) (nomark _)) (vw_and1 (vt_cmp op_lt r_cmp (toO (ve_callB call_len r_len (by rfl) B.len (by decide +kernel) (vo_cons (toO (ve_var (v8 _))) vo_nil))) (toO (ve_callB call_len r_len (by rfl) B.len (by decide +kernel) (vo_cons (toO (ve_var (v7 _))) vo_nil))) (nomark _)))))
    (vss_one (vs_ret ve_bl))
    vss_nil)
    (vss_one (vs_if (vt_w (vw_and (vt_cmp (op_neB hu) r_ne (toO (ve_ix (toO (ve_fld kk.k_Game 0 rfl (toO (ve_var (v0 _))))) (toO (ve_var (v6 _))) (fun _ _ => rfl))) (toO (ve_var (v1 _))) (nomark _)) (vw_and1 (vt_cmp (op_eqB hu) r_eq (toO (ve_callB call_len r_len (by rfl) B.len (by decide +kernel) (vo_cons (toO (ve_var (v8 _))) vo_nil))) (toO ve_int) (nomark _)))))
    (vss_one (vs_ret ve_bl))
    vss_nil))))))
    (vss_one (vs_ret ve_bl)))))
theorem d_is_trap {P : Program} {wd : World} {K : PySem.W.Frag} {mg : Str → Option Value} {base : Heap} {cl : Nat → ClsT} (B : Bt mg) (kk : Ks K cl) (a_is_trap : AtK K mg "is_trap" s_is_trap "within" V.non) (c_flags_within : Def P wd K mg base cl 3 "flags_within" 2 F_flags_within) (c_flags_of : Def P wd K mg base cl 1 "flags_of" 2 F_flags_of) (c_Game_len : MtD P wd K mg base cl 1 0 "__len__" 1 F_Game_len) : DefK P wd K mg base cl 5 "is_trap" 3 "within" D.non F_is_trap :=
  kdef_of rfl a_is_trap sc_is_trap rfl (fun _ _ _ _ _ _ us ks h1 h2 => match us, ks, h1, h2 with | [_, _, _], [_], _, _ => ⟨_, _, _, _, _, _, rfl, rfl, rfl⟩) (fun _ _ _ _ _ _ us ks h1 h2 => match us, ks, h1, h2 with | [_, _, _], [_], _, _ => rfl) fun f cdv A outer s H E G0 H0 sf hr => b_is_trap (k := 3) B kk (c_flags_within.mono (by decide)) (c_flags_of.mono (by decide)) (c_Game_len.mono (by decide)) hr

/-! frozen -/
abbrev s_frozen : Stmt := top 6
abbrev N_frozen : List Str := ["value", "item"]
theorem sc_frozen : FnScope N_frozen ["value"] (defScope s_frozen) := ⟨rfl, rfl, rfl, by decide +kernel, rfl, by decide +kernel, by decide +kernel⟩
theorem b_frozen (r_frozen : List D → Ret) {P : Program} {wd : World} {K : PySem.W.Frag} {mg : Str → Option Value} {base : Heap} {cl : Nat → ClsT} {k : Nat} (B : Bt mg) (kk : Ks K cl) (c_frozen : Def P wd K mg base cl k "frozen" 1 r_frozen)
    {f : Addr} {cdv : Value} {A : Around} {outer : List PySem.Env} {s : Shared} {H : Hp} {E : XK} {G0 H0 : Hp} {sf : Addr} (hr : Room k (A.deeper (envOfC "frozen" (defScope s_frozen) s.heap.objs.size f cdv))) :
    VSs ⟨cl, G0, H0, sf⟩ (XX P wd K mg base N_frozen "frozen" (defScope s_frozen) f cdv A outer s H E) (defBody s_frozen) (frozenM r_frozen) := by
  have hr0 := hr
  have hu : (XX P wd K mg base N_frozen "frozen" (defScope s_frozen) f cdv A outer s H E).A.units + 64 < cLine := hr.units
  have nd : (XX P wd K mg base N_frozen "frozen" (defScope s_frozen) f cdv A outer s H E).N.Nodup := sc_frozen.nd
  have v0 : ∀ pos, PE (XX P wd K mg base N_frozen "frozen" (defScope s_frozen) f cdv A outer s H E) (.Name "value" pos) (tVar 0) := fun _ => pv 0
  exact (vss_cons (vs_if (vt_val (ve_callB call_isiD r_isi (by rfl) B.isinstance (by decide +kernel) (vo_cons (toO (ve_var (v0 _))) (vo_cons (toO (ve_tup (va_cons (ve_ty (by rfl) B.list (by decide +kernel)) (va_cons (ve_ty (by rfl) B.tuple (by decide +kernel)) va_nil)))) vo_nil))))
    (vss_one (vs_ret (ve_callTy call_tuple_of r_tuple (by rfl) B.tuple (by decide +kernel) (vo_cons (toO (ofF (vf_comp rfl nd (vi_items (ve_var (v0 _))) (blkOk_by (own := [("item", 1)]) (N := N_frozen) (sc := (defScope s_frozen)) (by decide +kernel)) rfl (fun _ _ _ _ _ => (vg_nm nd rfl (by first | exact .inl rfl | exact .inr rfl))) (fun _ _ _ _ _ => vts_nil) (fun _ _ _ _ _ => (ve_call c_frozen hr0 (by rfl) (va_cons (ve_var (pv 1)) va_nil) (alen_cons alen_nil)))))) vo_nil))))
    vss_nil)
    (vss_one (vs_ret (ve_var (v0 _)))))
theorem dd_frozen {P : Program} {wd : World} {K : PySem.W.Frag} {mg : Str → Option Value} {base : Heap} {cl : Nat → ClsT} (B : Bt mg) (kk : Ks K cl) (a_frozen : At K mg "frozen" s_frozen) : ∀ n : Nat, Def P wd K mg base cl (0 + n) "frozen" 1 (frozenF n)
  | 0 => def_stuck a_frozen (fun _ _ F => F.binds (ps := ["value"]) fun _ _ _ _ _ _ us hl => match us, hl with | [_], _ => rfl)
  | n + 1 => have ih := dd_frozen B kk a_frozen n
    def_of a_frozen sc_frozen (fun _ _ F => F.binds (ps := ["value"]) fun _ _ _ _ _ _ us hl => match us, hl with | [_], _ => rfl) fun f cdv A outer s H E G0 H0 sf hr => b_frozen _ B kk ih hr
theorem d_frozen {P : Program} {wd : World} {K : PySem.W.Frag} {mg : Str → Option Value} {base : Heap} {cl : Nat → ClsT} (B : Bt mg) (kk : Ks K cl) (a_frozen : At K mg "frozen" s_frozen) : Def P wd K mg base cl 4 "frozen" 1 (frozenF 4) := ((dd_frozen B kk a_frozen 4)).mono (by decide)

/-! is_number -/
abbrev s_is_number : Stmt := top 11
abbrev N_is_number : List Str := ["value"]
theorem sc_is_number : FnScope N_is_number ["value"] (defScope s_is_number) := ⟨rfl, rfl, rfl, by decide +kernel, rfl, by decide +kernel, by decide +kernel⟩
theorem b_is_number {P : Program} {wd : World} {K : PySem.W.Frag} {mg : Str → Option Value} {base : Heap} {cl : Nat → ClsT} {k : Nat} (B : Bt mg) (kk : Ks K cl)
    {f : Addr} {cdv : Value} {A : Around} {outer : List PySem.Env} {s : Shared} {H : Hp} {E : XK} {G0 H0 : Hp} {sf : Addr} (hr : Room k (A.deeper (envOfC "is_number" (defScope s_is_number) s.heap.objs.size f cdv))) :
    VSs ⟨cl, G0, H0, sf⟩ (XX P wd K mg base N_is_number "is_number" (defScope s_is_number) f cdv A outer s H E) (defBody s_is_number) (is_numberM) := by
  have hr0 := hr
  have hu : (XX P wd K mg base N_is_number "is_number" (defScope s_is_number) f cdv A outer s H E).A.units + 64 < cLine := hr.units
  have nd : (XX P wd K mg base N_is_number "is_number" (defScope s_is_number) f cdv A outer s H E).N.Nodup := sc_is_number.nd
  have v0 : ∀ pos, PE (XX P wd K mg base N_is_number "is_number" (defScope s_is_number) f cdv A outer s H E) (.Name "value" pos) (tVar 0) := fun _ => pv 0
  exact (vss_one (vs_ret (ve_and (ve_callB call_isiD r_isi (by rfl) B.isinstance (by decide +kernel) (vo_cons (toO (ve_var (v0 _))) (vo_cons (toO (ve_ty (by rfl) B.int (by decide +kernel))) vo_nil))) (ve_one (ve_not (ve_callB call_isiD r_isi (by rfl) B.isinstance (by decide +kernel) (vo_cons (toO (ve_var (v0 _))) (vo_cons (toO (ve_ty (by rfl) B.bool (by decide +kernel))) vo_nil))))))))
theorem d_is_number {P : Program} {wd : World} {K : PySem.W.Frag} {mg : Str → Option Value} {base : Heap} {cl : Nat → ClsT} (B : Bt mg) (kk : Ks K cl) (a_is_number : At K mg "is_number" s_is_number) : Def P wd K mg base cl 1 "is_number" 1 is_numberF :=
  def_of a_is_number sc_is_number (fun _ _ F => F.binds (ps := ["value"]) fun _ _ _ _ _ _ us hl => match us, hl with | [_], _ => rfl) fun f cdv A outer s H E G0 H0 sf hr => b_is_number (k := 0) B kk hr

/-! is_between -/
abbrev s_is_between : Stmt := top 12
abbrev N_is_between : List Str := ["value", "least", "greatest"]
theorem sc_is_between : FnScope N_is_between ["value", "least", "greatest"] (defScope s_is_between) := ⟨rfl, rfl, rfl, by decide +kernel, rfl, by decide +kernel, by decide +kernel⟩
theorem b_is_between {P : Program} {wd : World} {K : PySem.W.Frag} {mg : Str → Option Value} {base : Heap} {cl : Nat → ClsT} {k : Nat} (B : Bt mg) (kk : Ks K cl) (c_is_number : Def P wd K mg base cl k "is_number" 1 is_numberF)
    {f : Addr} {cdv : Value} {A : Around} {outer : List PySem.Env} {s : Shared} {H : Hp} {E : XK} {G0 H0 : Hp} {sf : Addr} (hr : Room k (A.deeper (envOfC "is_between" (defScope s_is_between) s.heap.objs.size f cdv))) :
    VSs ⟨cl, G0, H0, sf⟩ (XX P wd K mg base N_is_between "is_between" (defScope s_is_between) f cdv A outer s H E) (defBody s_is_between) (is_betweenM) := by
  have hr0 := hr
  have hu : (XX P wd K mg base N_is_between "is_between" (defScope s_is_between) f cdv A outer s H E).A.units + 64 < cLine := hr.units
  have nd : (XX P wd K mg base N_is_between "is_between" (defScope s_is_between) f cdv A outer s H E).N.Nodup := sc_is_between.nd
  have v0 : ∀ pos, PE (XX P wd K mg base N_is_between "is_between" (defScope s_is_between) f cdv A outer s H E) (.Name "value" pos) (tVar 0) := fun _ => pv 0
  have v1 : ∀ pos, PE (XX P wd K mg base N_is_between "is_between" (defScope s_is_between) f cdv A outer s H E) (.Name "least" pos) (tVar 1) := fun _ => pv 1
  have v2 : ∀ pos, PE (XX P wd K mg base N_is_between "is_between" (defScope s_is_between) f cdv A outer s H E) (.Name "greatest" pos) (tVar 2) := fun _ => pv 2
  exact (vss_one (vs_ret (ve_and (ve_call c_is_number hr0 (by rfl) (va_cons (ve_var (v0 _)) va_nil) (alen_cons alen_nil)) (ve_one (ve_chain op_le op_le r_cmp r_cmp (toO (ve_var (v1 _))) (toO (ve_var (v0 _))) (toO (ve_var (v2 _))))))))
theorem d_is_between {P : Program} {wd : World} {K : PySem.W.Frag} {mg : Str → Option Value} {base : Heap} {cl : Nat → ClsT} (B : Bt mg) (kk : Ks K cl) (a_is_between : At K mg "is_between" s_is_between) (c_is_number : Def P wd K mg base cl 1 "is_number" 1 is_numberF) : Def P wd K mg base cl 2 "is_between" 3 is_betweenF :=
  def_of a_is_between sc_is_between (fun _ _ F => F.binds (ps := ["value", "least", "greatest"]) fun _ _ _ _ _ _ us hl => match us, hl with | [_, _, _], _ => rfl) fun f cdv A outer s H E G0 H0 sf hr => b_is_between (k := 1) B kk (c_is_number.mono (by decide)) hr

/-! is_successor_row -/
abbrev s_is_successor_row : Stmt := top 13
abbrev N_is_successor_row : List Str := ["row", "count", "before", "vertex"]
theorem sc_is_successor_row : FnScope N_is_successor_row ["row", "count"] (defScope s_is_successor_row) := ⟨rfl, rfl, rfl, by decide +kernel, rfl, by decide +kernel, by decide +kernel⟩
theorem b_is_successor_row {P : Program} {wd : World} {K : PySem.W.Frag} {mg : Str → Option Value} {base : Heap} {cl : Nat → ClsT} {k : Nat} (B : Bt mg) (kk : Ks K cl) (c_is_between : Def P wd K mg base cl k "is_between" 3 is_betweenF)
    {f : Addr} {cdv : Value} {A : Around} {outer : List PySem.Env} {s : Shared} {H : Hp} {E : XK} {G0 H0 : Hp} {sf : Addr} (hr : Room k (A.deeper (envOfC "is_successor_row" (defScope s_is_successor_row) s.heap.objs.size f cdv))) :
    VSs ⟨cl, G0, H0, sf⟩ (XX P wd K mg base N_is_successor_row "is_successor_row" (defScope s_is_successor_row) f cdv A outer s H E) (defBody s_is_successor_row) (is_successor_rowM) := by
  have hr0 := hr
  have hu : (XX P wd K mg base N_is_successor_row "is_successor_row" (defScope s_is_successor_row) f cdv A outer s H E).A.units + 64 < cLine := hr.units
  have nd : (XX P wd K mg base N_is_successor_row "is_successor_row" (defScope s_is_successor_row) f cdv A outer s H E).N.Nodup := sc_is_successor_row.nd
  have v0 : ∀ pos, PE (XX P wd K mg base N_is_successor_row "is_successor_row" (defScope s_is_successor_row) f cdv A outer s H E) (.Name "row" pos) (tVar 0) := fun _ => pv 0
  have v1 : ∀ pos, PE (XX P wd K mg base N_is_successor_row "is_successor_row" (defScope s_is_successor_row) f cdv A outer s H E) (.Name "count" pos) (tVar 1) := fun _ => pv 1
  have v2 : ∀ pos, PE (XX P wd K mg base N_is_successor_row "is_successor_row" (defScope s_is_successor_row) f cdv A outer s H E) (.Name "before" pos) (tVar 2) := fun _ => pv 2
  have v3 : ∀ pos, PE (XX P wd K mg base N_is_successor_row "is_successor_row" (defScope s_is_successor_row) f cdv A outer s H E) (.Name "vertex" pos) (tVar 3) := fun _ => pv 3
  exact (vss_cons (vs_if (vt_not (vt_val (ve_callB call_isiD r_isi (by rfl) B.isinstance (by decide +kernel) (vo_cons (toO (ve_var (v0 _))) (vo_cons (toO (ve_ty (by rfl) B.tuple (by decide +kernel))) vo_nil)))))
    (vss_one (vs_ret ve_bl))
    vss_nil)
    (vss_cons (vs_set nd rfl (.inl rfl) (ve_neg (toO ve_int)))
    (vss_cons (vs_for PassesOwn.never rfl (vi_items (ve_var (v0 _))) (vg_nm nd rfl (.inl rfl))
    (vss_cons (vs_if (vt_not (vt_val (ve_call c_is_between hr0 (by rfl) (va_cons (ve_var (v3 _)) (va_cons (ve_bin op_addD r_add (toO (ve_var (v2 _))) (toO ve_int)) (va_cons (ve_bin op_sub r_sub (toO (ve_var (v1 _))) (toO ve_int)) va_nil))) (alen_cons (alen_cons (alen_cons alen_nil))))))
    (vss_one (vs_ret ve_bl))
    vss_nil)
    (vss_one (vs_set nd rfl (.inl rfl) (ve_var (v3 _))))))
    (vss_one (vs_ret (ve_cmp op_gt r_cmp (toO (ve_callB call_len r_len (by rfl) B.len (by decide +kernel) (vo_cons (toO (ve_var (v0 _))) vo_nil))) (toO ve_int) (nomark _)))))))
theorem d_is_successor_row {P : Program} {wd : World} {K : PySem.W.Frag} {mg : Str → Option Value} {base : Heap} {cl : Nat → ClsT} (B : Bt mg) (kk : Ks K cl) (a_is_successor_row : At K mg "is_successor_row" s_is_successor_row) (c_is_between : Def P wd K mg base cl 2 "is_between" 3 is_betweenF) : Def P wd K mg base cl 3 "is_successor_row" 2 is_successor_rowF :=
  def_of a_is_successor_row sc_is_successor_row (fun _ _ F => F.binds (ps := ["row", "count"]) fun _ _ _ _ _ _ us hl => match us, hl with | [_, _], _ => rfl) fun f cdv A outer s H E G0 H0 sf hr => b_is_successor_row (k := 2) B kk (c_is_between.mono (by decide)) hr

/-! Game.top -/
abbrev s_Game_top : Stmt := inClass (top 14) 3
abbrev N_Game_top : List Str := ["self"]
theorem sc_Game_top : FnScope N_Game_top ["self"] (defScope s_Game_top) := ⟨rfl, rfl, rfl, by decide +kernel, rfl, by decide +kernel, by decide +kernel⟩
theorem b_Game_top {P : Program} {wd : World} {K : PySem.W.Frag} {mg : Str → Option Value} {base : Heap} {cl : Nat → ClsT} {k : Nat} (B : Bt mg) (kk : Ks K cl)
    {f : Addr} {cdv : Value} {A : Around} {outer : List PySem.Env} {s : Shared} {H : Hp} {E : XK} {G0 H0 : Hp} {sf : Addr} (hr : Room k (A.deeper (envOfC "Game.top" (defScope s_Game_top) s.heap.objs.size f cdv))) :
    VSs ⟨cl, G0, H0, sf⟩ (XX P wd K mg base N_Game_top "Game.top" (defScope s_Game_top) f cdv A outer s H E) (defBody s_Game_top) (Game_topM) := by
  have hr0 := hr
  have hu : (XX P wd K mg base N_Game_top "Game.top" (defScope s_Game_top) f cdv A outer s H E).A.units + 64 < cLine := hr.units
  have nd : (XX P wd K mg base N_Game_top "Game.top" (defScope s_Game_top) f cdv A outer s H E).N.Nodup := sc_Game_top.nd
  have v0 : ∀ pos, PE (XX P wd K mg base N_Game_top "Game.top" (defScope s_Game_top) f cdv A outer s H E) (.Name "self" pos) (tVar 0) := fun _ => pv 0
  exact (vss_one (vs_ret (ve_maxD rfl (by rfl) B.max (toO (ve_fld kk.k_Game 1 rfl (toO (ve_var (v0 _))))))))
theorem d_Game_top {P : Program} {wd : World} {K : PySem.W.Frag} {mg : Str → Option Value} {base : Heap} {cl : Nat → ClsT} (B : Bt mg) (kk : Ks K cl) (a_Game_top : AtP K (cl 0).addr "top" "Game.top" s_Game_top) : PrD P wd K mg base cl 1 0 "top" Game_topF :=
  prop_of a_Game_top sc_Game_top rfl (fun _ _ F => F.binds (ps := ["self"]) fun _ _ _ _ _ _ us hl => match us, hl with | [_], _ => rfl) fun f cdv A outer s H E G0 H0 sf hr => b_Game_top (k := 0) B kk hr

/-! Game.__init__ -/
abbrev s_Game_init : Stmt := inClass (top 14) 0
abbrev N_Game_init : List Str := ["self", "owners", "priorities", "successors", "count", "vertex", "good"]
theorem sc_Game_init : FnScope N_Game_init ["self", "owners", "priorities", "successors"] (defScope s_Game_init) := ⟨rfl, rfl, rfl, by decide +kernel, rfl, by decide +kernel, by decide +kernel⟩
theorem b_Game_init {P : Program} {wd : World} {K : PySem.W.Frag} {mg : Str → Option Value} {base : Heap} {cl : Nat → ClsT} {k : Nat} (B : Bt mg) (kk : Ks K cl) (c_frozen : Def P wd K mg base cl k "frozen" 1 (frozenF 4)) (c_is_between : Def P wd K mg base cl k "is_between" 3 is_betweenF) (c_is_successor_row : Def P wd K mg base cl k "is_successor_row" 2 is_successor_rowF) (c_Game_top : PrD P wd K mg base cl k 0 "top" Game_topF)
    {f : Addr} {cdv : Value} {A : Around} {outer : List PySem.Env} {s : Shared} {H : Hp} {E : XK} {G0 H0 : Hp} {sf : Addr} (hr : Room (k + 1) (A.deeper (envOfC "Game.__init__" (defScope s_Game_init) s.heap.objs.size f cdv))) :
    VSs ⟨cl, G0, H0, sf⟩ (XX P wd K mg base N_Game_init "Game.__init__" (defScope s_Game_init) f cdv A outer s H E) (defBody s_Game_init) (Game_initM) := by
  have hr0 := hr.mono (Nat.le_succ k)
  have hu : (XX P wd K mg base N_Game_init "Game.__init__" (defScope s_Game_init) f cdv A outer s H E).A.units + 64 < cLine := hr.units
  have nd : (XX P wd K mg base N_Game_init "Game.__init__" (defScope s_Game_init) f cdv A outer s H E).N.Nodup := sc_Game_init.nd
  have v0 : ∀ pos, PE (XX P wd K mg base N_Game_init "Game.__init__" (defScope s_Game_init) f cdv A outer s H E) (.Name "self" pos) (tVar 0) := fun _ => pv 0
  have v1 : ∀ pos, PE (XX P wd K mg base N_Game_init "Game.__init__" (defScope s_Game_init) f cdv A outer s H E) (.Name "owners" pos) (tVar 1) := fun _ => pv 1
  have v2 : ∀ pos, PE (XX P wd K mg base N_Game_init "Game.__init__" (defScope s_Game_init) f cdv A outer s H E) (.Name "priorities" pos) (tVar 2) := fun _ => pv 2
  have v3 : ∀ pos, PE (XX P wd K mg base N_Game_init "Game.__init__" (defScope s_Game_init) f cdv A outer s H E) (.Name "successors" pos) (tVar 3) := fun _ => pv 3
  have v4 : ∀ pos, PE (XX P wd K mg base N_Game_init "Game.__init__" (defScope s_Game_init) f cdv A outer s H E) (.Name "count" pos) (tVar 4) := fun _ => pv 4
  have v5 : ∀ pos, PE (XX P wd K mg base N_Game_init "Game.__init__" (defScope s_Game_init) f cdv A outer s H E) (.Name "vertex" pos) (tVar 5) := fun _ => pv 5
  have v6 : ∀ pos, PE (XX P wd K mg base N_Game_init "Game.__init__" (defScope s_Game_init) f cdv A outer s H E) (.Name "good" pos) (tVar 6) := fun _ => pv 6
  exact (vss_cons (vs_fst kk.k_Game 0 rfl (v0 _) (ve_call c_frozen hr0 (by rfl) (va_cons (ve_var (v1 _)) va_nil) (alen_cons alen_nil)))
    (vss_cons (vs_fst kk.k_Game 1 rfl (v0 _) (ve_call c_frozen hr0 (by rfl) (va_cons (ve_var (v2 _)) va_nil) (alen_cons alen_nil)))
    (vss_cons (vs_fst kk.k_Game 2 rfl (v0 _) (ve_call c_frozen hr0 (by rfl) (va_cons (ve_var (v3 _)) va_nil) (alen_cons alen_nil)))
    (vss_cons (vs_set nd rfl (.inl rfl) (ve_callB call_len r_len (by rfl) B.len (by decide +kernel) (vo_cons (toO (ve_fld kk.k_Game 0 rfl (vo_var (v0 _)))) vo_nil)))
    (vss_cons (vs_for PassesOwn.never rfl (vi_range1 (by rfl) B.range (vo_cons (toO (ve_var (v4 _))) vo_nil)) (vg_nm nd rfl (.inl rfl))
    (vss_cons (vs_set nd rfl (.inl rfl) (ve_and (ve_call c_is_between hr0 (by rfl) (va_cons (ve_ix (toO (ve_fld kk.k_Game 0 rfl (vo_var (v0 _)))) (toO (ve_var (v5 _))) (fun _ _ => rfl)) (va_cons ve_int (va_cons ve_int va_nil))) (alen_cons (alen_cons (alen_cons alen_nil)))) (ve_one (ve_call c_is_between hr0 (by rfl) (va_cons (ve_ix (toO (ve_fld kk.k_Game 1 rfl (vo_var (v0 _)))) (toO (ve_var (v5 _))) (fun _ _ => rfl)) (va_cons ve_int (va_cons ve_int va_nil))) (alen_cons (alen_cons (alen_cons alen_nil)))))))
    (vss_one (vs_if (vt_w (vw_or (vt_not (vt_val (ve_var (v6 _)))) (vw_or1 (vt_not (vt_val (ve_call c_is_successor_row hr0 (by rfl) (va_cons (ve_ix (toO (ve_fld kk.k_Game 2 rfl (vo_var (v0 _)))) (toO (ve_var (v5 _))) (fun _ _ => rfl)) (va_cons (ve_var (v4 _)) va_nil)) (alen_cons (alen_cons alen_nil))))))))
    (vss_one vs_never)
    vss_nil))))
    (vss_one (vs_fst kk.k_Game 3 rfl (v0 _) (ve_bin op_fdiv r_fdiv (toO (ve_bin op_addD r_add (toO (ve_prop c_Game_top kk.k_Game hr (vo_var (v0 _)))) (toO ve_int))) (toO ve_int)))))))))
theorem d_Game_init {P : Program} {wd : World} {K : PySem.W.Frag} {mg : Str → Option Value} {base : Heap} {cl : Nat → ClsT} (B : Bt mg) (kk : Ks K cl) (a_Game_init : AtI K mg (cl 0).addr "Game" "Game.__init__" s_Game_init) (c_frozen : Def P wd K mg base cl 4 "frozen" 1 (frozenF 4)) (c_is_between : Def P wd K mg base cl 2 "is_between" 3 is_betweenF) (c_is_successor_row : Def P wd K mg base cl 3 "is_successor_row" 2 is_successor_rowF) (c_Game_top : PrD P wd K mg base cl 1 0 "top" Game_topF) : MkD P wd K mg base cl 6 0 "Game" 3 Game_initF :=
  mk_of a_Game_init sc_Game_init (by decide) (fun _ _ F => F.binds (ps := ["self", "owners", "priorities", "successors"]) fun _ _ _ _ _ _ us hl => match us, hl with | [_, _, _, _], _ => rfl) fun f cdv A outer s H E G0 H0 sf hr => b_Game_init (k := 4) B kk (c_frozen.mono (by decide)) (c_is_between.mono (by decide)) (c_is_successor_row.mono (by decide)) (c_Game_top.mono (by decide)) hr

/-! _law_cell -/
abbrev s_law_cell : Stmt := top 17
abbrev N_law_cell : List Str := ["script", "k", "seed", "cell"]
theorem sc_law_cell : FnScope N_law_cell ["script", "k"] (defScope s_law_cell) := ⟨rfl, rfl, rfl, by decide +kernel, rfl, by decide +kernel, by decide +kernel⟩
theorem b_law_cell {P : Program} {wd : World} {K : PySem.W.Frag} {mg : Str → Option Value} {base : Heap} {cl : Nat → ClsT} {k : Nat} (B : Bt mg) (kk : Ks K cl)
    {f : Addr} {cdv : Value} {A : Around} {outer : List PySem.Env} {s : Shared} {H : Hp} {E : XK} {G0 H0 : Hp} {sf : Addr} (hr : Room k (A.deeper (envOfC "_law_cell" (defScope s_law_cell) s.heap.objs.size f cdv))) :
    VSs ⟨cl, G0, H0, sf⟩ (XX P wd K mg base N_law_cell "_law_cell" (defScope s_law_cell) f cdv A outer s H E) (defBody s_law_cell) (m_cell) := by
  have hr0 := hr
  have hu : (XX P wd K mg base N_law_cell "_law_cell" (defScope s_law_cell) f cdv A outer s H E).A.units + 64 < cLine := hr.units
  have nd : (XX P wd K mg base N_law_cell "_law_cell" (defScope s_law_cell) f cdv A outer s H E).N.Nodup := sc_law_cell.nd
  have v0 : ∀ pos, PE (XX P wd K mg base N_law_cell "_law_cell" (defScope s_law_cell) f cdv A outer s H E) (.Name "script" pos) (tVar 0) := fun _ => pv 0
  have v1 : ∀ pos, PE (XX P wd K mg base N_law_cell "_law_cell" (defScope s_law_cell) f cdv A outer s H E) (.Name "k" pos) (tVar 1) := fun _ => pv 1
  have v2 : ∀ pos, PE (XX P wd K mg base N_law_cell "_law_cell" (defScope s_law_cell) f cdv A outer s H E) (.Name "seed" pos) (tVar 2) := fun _ => pv 2
  have v3 : ∀ pos, PE (XX P wd K mg base N_law_cell "_law_cell" (defScope s_law_cell) f cdv A outer s H E) (.Name "cell" pos) (tVar 3) := fun _ => pv 3
  exact (vss_cons (vs_if (vt_cmp op_lt r_cmp (toO (ve_var (v1 _))) (toO (ve_callB call_len r_len (by rfl) B.len (by decide +kernel) (vo_cons (toO (ve_var (v0 _))) vo_nil))) (nomark _))
    (vss_one (vs_ret (ve_ix (toO (ve_var (v0 _))) (toO (ve_var (v1 _))) (fun _ _ => rfl))))
    vss_nil)
    (vss_cons (vs_set nd rfl (.inl rfl) ve_int)
    (vss_cons (vs_for PassesOwn.never rfl (vi_items (ve_var (v0 _))) (vg_nm nd rfl (.inl rfl))
    (vss_one (vs_set nd rfl (.inl rfl) (ve_bin op_mod r_mod (toO (ve_callTy call_int1 r_toInt (by rfl) B.int (by decide +kernel) (vo_cons (toO (ve_bin op_addD r_add (toO (ve_bin op_mulD r_mul (toO (ve_var (v2 _))) (toO ve_int))) (toO (ve_bin op_mod r_mod (toO (ve_callTy call_int1 r_toInt (by rfl) B.int (by decide +kernel) (vo_cons (toO (ve_var (v3 _))) vo_nil))) (toO ve_int))))) vo_nil))) (toO ve_int)))))
    (vss_one (vs_ret (ve_bin op_mod r_mod (toO (ve_callTy call_int1 r_toInt (by rfl) B.int (by decide +kernel) (vo_cons (toO (ve_bin op_mulD r_mul (toO (ve_bin op_mulD r_mul (toO (ve_bin op_addD r_add (toO (ve_var (v2 _))) (toO ve_int))) (toO (ve_bin op_addD r_add (toO (ve_var (v1 _))) (toO ve_int))))) (toO ve_int))) vo_nil))) (toO ve_int)))))))
theorem d_law_cell {P : Program} {wd : World} {K : PySem.W.Frag} {mg : Str → Option Value} {base : Heap} {cl : Nat → ClsT} (B : Bt mg) (kk : Ks K cl) (a_law_cell : At K mg "_law_cell" s_law_cell) : Def P wd K mg base cl 1 "_law_cell" 2 cellF :=
  def_of a_law_cell sc_law_cell (fun _ _ F => F.binds (ps := ["script", "k"]) fun _ _ _ _ _ _ us hl => match us, hl with | [_, _], _ => rfl) fun f cdv A outer s H E G0 H0 sf hr => b_law_cell (k := 0) B kk hr

/-! _law_digits -/
abbrev s_law_digits : Stmt := top 18
abbrev N_law_digits : List Str := ["cell", "sizes", "row", "rest", "size", "seed", "k", "twice"]
theorem sc_law_digits : FnScope N_law_digits ["cell", "sizes"] (defScope s_law_digits) := ⟨rfl, rfl, rfl, by decide +kernel, rfl, by decide +kernel, by decide +kernel⟩
theorem b_law_digits {P : Program} {wd : World} {K : PySem.W.Frag} {mg : Str → Option Value} {base : Heap} {cl : Nat → ClsT} {k : Nat} (B : Bt mg) (kk : Ks K cl)
    {f : Addr} {cdv : Value} {A : Around} {outer : List PySem.Env} {s : Shared} {H : Hp} {E : XK} {G0 H0 : Hp} {sf : Addr} (hr : Room k (A.deeper (envOfC "_law_digits" (defScope s_law_digits) s.heap.objs.size f cdv))) :
    VSs ⟨cl, G0, H0, sf⟩ (XX P wd K mg base N_law_digits "_law_digits" (defScope s_law_digits) f cdv A outer s H E) (defBody s_law_digits) (m_digits2) := by
  have hr0 := hr
  have hu : (XX P wd K mg base N_law_digits "_law_digits" (defScope s_law_digits) f cdv A outer s H E).A.units + 64 < cLine := hr.units
  have nd : (XX P wd K mg base N_law_digits "_law_digits" (defScope s_law_digits) f cdv A outer s H E).N.Nodup := sc_law_digits.nd
  have v0 : ∀ pos, PE (XX P wd K mg base N_law_digits "_law_digits" (defScope s_law_digits) f cdv A outer s H E) (.Name "cell" pos) (tVar 0) := fun _ => pv 0
  have v1 : ∀ pos, PE (XX P wd K mg base N_law_digits "_law_digits" (defScope s_law_digits) f cdv A outer s H E) (.Name "sizes" pos) (tVar 1) := fun _ => pv 1
  have v2 : ∀ pos, PE (XX P wd K mg base N_law_digits "_law_digits" (defScope s_law_digits) f cdv A outer s H E) (.Name "row" pos) (tVar 2) := fun _ => pv 2
  have v3 : ∀ pos, PE (XX P wd K mg base N_law_digits "_law_digits" (defScope s_law_digits) f cdv A outer s H E) (.Name "rest" pos) (tVar 3) := fun _ => pv 3
  have v4 : ∀ pos, PE (XX P wd K mg base N_law_digits "_law_digits" (defScope s_law_digits) f cdv A outer s H E) (.Name "size" pos) (tVar 4) := fun _ => pv 4
  have v5 : ∀ pos, PE (XX P wd K mg base N_law_digits "_law_digits" (defScope s_law_digits) f cdv A outer s H E) (.Name "seed" pos) (tVar 5) := fun _ => pv 5
  have v6 : ∀ pos, PE (XX P wd K mg base N_law_digits "_law_digits" (defScope s_law_digits) f cdv A outer s H E) (.Name "k" pos) (tVar 6) := fun _ => pv 6
  have v7 : ∀ pos, PE (XX P wd K mg base N_law_digits "_law_digits" (defScope s_law_digits) f cdv A outer s H E) (.Name "twice" pos) (tVar 7) := fun _ => pv 7
  exact (vss_cons (vs_setF nd rfl (.inl rfl) (vf_lst va_nil))
    (vss_cons (vs_set nd rfl (.inl rfl) (ve_callTy call_int1 r_toInt (by rfl) B.int (by decide +kernel) (vo_cons (toO (ve_var (v0 _))) vo_nil)))
    (vss_cons (vs_if (vt_cmp op_ge r_cmp (toO (ve_var (v3 _))) (toO (ve_bin op_pow r_pow (toO ve_int) (toO ve_int))) (nomark _))
    (vss_cons (vs_set nd rfl (.inl rfl) (ve_bin op_sub r_sub (toO (ve_var (v3 _))) (toO (ve_bin op_pow r_pow (toO ve_int) (toO ve_int)))))
    (vss_cons (vs_for PassesOwn.never rfl (vi_items (ve_var (v1 _))) (vg_nm nd rfl (.inl rfl))
    (vss_cons (vs_app (v2 _) (ve_bin op_mod r_mod (toO (ve_callTy call_int1 r_toInt (by rfl) B.int (by decide +kernel) (vo_cons (toO (ve_var (v3 _))) vo_nil))) (toO (ve_var (v4 _)))))
    (vss_one (vs_set nd rfl (.inl rfl) (ve_bin op_fdiv r_fdiv (toO (ve_callTy call_int1 r_toInt (by rfl) B.int (by decide +kernel) (vo_cons (toO (ve_var (v3 _))) vo_nil))) (toO (ve_var (v4 _))))))))
    (vss_one (vs_retV (v2 _)))))
    vss_nil)
    (vss_cons (vs_set nd rfl (.inl rfl) (ve_bin op_mod r_mod (toO (ve_callTy call_int1 r_toInt (by rfl) B.int (by decide +kernel) (vo_cons (toO (ve_var (v3 _))) vo_nil))) (toO ve_int)))
    (vss_cons (vs_for PassesOwn.never rfl (vi_range1 (by rfl) B.range (vo_cons (toO (ve_callB call_len r_len (by rfl) B.len (by decide +kernel) (vo_cons (toO (ve_var (v1 _))) vo_nil))) vo_nil)) (vg_nm nd rfl (.inl rfl))
    (vss_cons (vs_set nd rfl (.inl rfl) (ve_bin op_mod r_mod (toO (ve_callTy call_int1 r_toInt (by rfl) B.int (by decide +kernel) (vo_cons (toO (ve_bin op_addD r_add (toO (ve_bin op_addD r_add (toO (ve_bin op_mulD r_mul (toO (ve_var (v5 _))) (toO ve_int))) (toO (ve_bin op_mulD r_mul (toO ve_int) (toO (ve_var (v6 _))))))) (toO ve_int))) vo_nil))) (toO ve_int)))
    (vss_cons (vs_set nd rfl (.inl rfl) (ve_bin op_mod r_mod (toO (ve_callTy call_int1 r_toInt (by rfl) B.int (by decide +kernel) (vo_cons (toO (ve_bin op_mulD r_mul (toO (ve_var (v5 _))) (toO (ve_bin op_addD r_add (toO (ve_bin op_fdiv r_fdiv (toO (ve_var (v5 _))) (toO ve_int))) (toO ve_int))))) vo_nil))) (toO ve_int)))
    (vss_one (vs_app (v2 _) (ve_bin op_mod r_mod (toO (ve_bin op_fdiv r_fdiv (toO (ve_var (v7 _))) (toO ve_int))) (toO (ve_ix (toO (ve_var (v1 _))) (toO (ve_var (v6 _))) (fun _ _ => rfl)))))))))
    (vss_one (vs_retV (v2 _))))))))
theorem d_law_digits {P : Program} {wd : World} {K : PySem.W.Frag} {mg : Str → Option Value} {base : Heap} {cl : Nat → ClsT} (B : Bt mg) (kk : Ks K cl) (a_law_digits : At K mg "_law_digits" s_law_digits) : Def P wd K mg base cl 1 "_law_digits" 2 digits2F :=
  def_of a_law_digits sc_law_digits (fun _ _ F => F.binds (ps := ["cell", "sizes"]) fun _ _ _ _ _ _ us hl => match us, hl with | [_, _], _ => rfl) fun f cdv A outer s H E G0 H0 sf hr => b_law_digits (k := 0) B kk hr

/-! _law_graph -/
abbrev s_law_graph : Stmt := top 19
abbrev N_law_graph : List Str := ["script", "at", "count", "top", "head", "chance", "owners", "priorities", "successors", "v", "row", "targets", "u"]
theorem sc_law_graph : FnScope N_law_graph ["script", "at", "count", "top"] (defScope s_law_graph) := ⟨rfl, rfl, rfl, by decide +kernel, rfl, by decide +kernel, by decide +kernel⟩
theorem b_law_graph {P : Program} {wd : World} {K : PySem.W.Frag} {mg : Str → Option Value} {base : Heap} {cl : Nat → ClsT} {k : Nat} (B : Bt mg) (kk : Ks K cl) (c_law_digits : Def P wd K mg base cl k "_law_digits" 2 digits2F) (c_law_cell : Def P wd K mg base cl k "_law_cell" 2 cellF)
    {f : Addr} {cdv : Value} {A : Around} {outer : List PySem.Env} {s : Shared} {H : Hp} {E : XK} {G0 H0 : Hp} {sf : Addr} (hr : Room k (A.deeper (envOfC "_law_graph" (defScope s_law_graph) s.heap.objs.size f cdv))) :
    VSs ⟨cl, G0, H0, sf⟩ (XX P wd K mg base N_law_graph "_law_graph" (defScope s_law_graph) f cdv A outer s H E) (defBody s_law_graph) (m_graph) := by
  have hr0 := hr
  have hu : (XX P wd K mg base N_law_graph "_law_graph" (defScope s_law_graph) f cdv A outer s H E).A.units + 64 < cLine := hr.units
  have nd : (XX P wd K mg base N_law_graph "_law_graph" (defScope s_law_graph) f cdv A outer s H E).N.Nodup := sc_law_graph.nd
  have v0 : ∀ pos, PE (XX P wd K mg base N_law_graph "_law_graph" (defScope s_law_graph) f cdv A outer s H E) (.Name "script" pos) (tVar 0) := fun _ => pv 0
  have v1 : ∀ pos, PE (XX P wd K mg base N_law_graph "_law_graph" (defScope s_law_graph) f cdv A outer s H E) (.Name "at" pos) (tVar 1) := fun _ => pv 1
  have v2 : ∀ pos, PE (XX P wd K mg base N_law_graph "_law_graph" (defScope s_law_graph) f cdv A outer s H E) (.Name "count" pos) (tVar 2) := fun _ => pv 2
  have v3 : ∀ pos, PE (XX P wd K mg base N_law_graph "_law_graph" (defScope s_law_graph) f cdv A outer s H E) (.Name "top" pos) (tVar 3) := fun _ => pv 3
  have v4 : ∀ pos, PE (XX P wd K mg base N_law_graph "_law_graph" (defScope s_law_graph) f cdv A outer s H E) (.Name "head" pos) (tVar 4) := fun _ => pv 4
  have v6 : ∀ pos, PE (XX P wd K mg base N_law_graph "_law_graph" (defScope s_law_graph) f cdv A outer s H E) (.Name "owners" pos) (tVar 6) := fun _ => pv 6
  have v7 : ∀ pos, PE (XX P wd K mg base N_law_graph "_law_graph" (defScope s_law_graph) f cdv A outer s H E) (.Name "priorities" pos) (tVar 7) := fun _ => pv 7
  have v8 : ∀ pos, PE (XX P wd K mg base N_law_graph "_law_graph" (defScope s_law_graph) f cdv A outer s H E) (.Name "successors" pos) (tVar 8) := fun _ => pv 8
  have v9 : ∀ pos, PE (XX P wd K mg base N_law_graph "_law_graph" (defScope s_law_graph) f cdv A outer s H E) (.Name "v" pos) (tVar 9) := fun _ => pv 9
  have v10 : ∀ pos, PE (XX P wd K mg base N_law_graph "_law_graph" (defScope s_law_graph) f cdv A outer s H E) (.Name "row" pos) (tVar 10) := fun _ => pv 10
  have v11 : ∀ pos, PE (XX P wd K mg base N_law_graph "_law_graph" (defScope s_law_graph) f cdv A outer s H E) (.Name "targets" pos) (tVar 11) := fun _ => pv 11
  exact (vss_cons (vs_set nd rfl (.inr rfl) (ve_call c_law_digits hr0 (by rfl) (va_cons (ve_call c_law_cell hr0 (by rfl) (va_cons (ve_var (v0 _)) (va_cons (ve_var (v1 _)) va_nil)) (alen_cons (alen_cons alen_nil))) (va_cons (ofF (vf_lst (va_cons ve_int (va_cons ve_int (va_cons ve_int (va_cons ve_int va_nil)))))) va_nil)) (alen_cons (alen_cons alen_nil))))
    (vss_cons (vs_set nd rfl (.inr rfl) (ve_ix (toO (ofF (vf_lst (va_cons ve_int (va_cons ve_int (va_cons ve_int (va_cons ve_int va_nil))))))) (toO (ve_ix (toO (ve_var (v4 _))) (toO ve_int) (fun _ _ => rfl))) (fun _ _ => rfl)))
    (vss_cons (vs_if (vt_w (vw_and (vt_cmp op_gt r_cmp (toO (ve_var (v2 _))) (toO ve_int) (nomark _)) (vw_and1 (vt_cmp (op_eqB hu) r_eq (toO (ve_ix (toO (ve_var (v4 _))) (toO ve_int) (fun _ _ => rfl))) (toO ve_int) (nomark _)))))
    (vss_one (vs_set nd rfl (.inr rfl) (ve_bin op_mulD r_mul (toO ve_int) (toO (ve_var (v2 _))))))
    vss_nil)
    (vss_cons (vs_setF nd rfl (.inl rfl) (vf_lst va_nil))
    (vss_cons (vs_setF nd rfl (.inl rfl) (vf_lst va_nil))
    (vss_cons (vs_setF nd rfl (.inl rfl) (vf_lst va_nil))
    (vss_cons (vs_for PassesOwn.never rfl (vi_range1 (by rfl) B.range (vo_cons (toO (ve_var (v2 _))) vo_nil)) (vg_nm nd rfl (.inr rfl))
    (vss_cons (vs_set nd rfl (.inr rfl) (ve_call c_law_digits hr0 (by rfl) (va_cons (ve_call c_law_cell hr0 (by rfl) (va_cons (ve_var (v0 _)) (va_cons (ve_bin op_addD r_add (toO (ve_bin op_addD r_add (toO (ve_var (v1 _))) (toO ve_int))) (toO (ve_var (v9 _)))) va_nil)) (alen_cons (alen_cons alen_nil))) (va_cons (ofF (vf_bin op_cat r_catL (toO (ofF (vf_lst (va_cons ve_int (va_cons (ve_bin op_addD r_add (toO (ve_var (v3 _))) (toO ve_int)) (va_cons (ve_var (v2 _)) va_nil)))))) (toO (ofF (vf_comp rfl nd (vi_range1 (by rfl) B.range (vo_cons (toO (ve_var (v2 _))) vo_nil)) (blkOk_by (own := [("u", 12)]) (N := N_law_graph) (sc := (defScope s_law_graph)) (by decide +kernel)) rfl (fun _ _ _ _ _ => (vg_nm nd rfl (by first | exact .inl rfl | exact .inr rfl))) (fun _ _ _ _ _ => vts_nil) (fun _ _ _ _ _ => (ve_var (pv 5)))))))) va_nil)) (alen_cons (alen_cons alen_nil))))
    (vss_cons (vs_setCs rfl nd rfl rfl (sw_true rfl rfl rfl (by decide +kernel)) (vi_range1 (by rfl) B.range (vo_cons (toO (ve_var (v2 _))) vo_nil)) (blkOk_by (own := [("u", 12)]) (N := N_law_graph) (sc := (defScope s_law_graph)) (by decide +kernel)) rfl (fun _ _ _ _ _ => (vg_nm nd rfl (by first | exact .inl rfl | exact .inr rfl))) (fun _ _ _ _ _ => (vts_one (vt_w (vw_or (vt_cmp (op_eqB hu) r_eq (toO (ve_ix (toO (ve_var (pv 10))) (toO (ve_bin op_addD r_add (toO ve_int) (toO (ve_var (pv 12))))) (fun _ _ => rfl))) (toO ve_int) (nomark _)) (vw_or1 (vt_w (vw_and (vt_cmp (op_eqB hu) r_eq (toO (ve_ix (toO (ve_var (pv 4))) (toO ve_int) (fun _ _ => rfl))) (toO ve_int) (nomark _)) (vw_and1 (vt_cmp (op_eqB hu) r_eq (toO (ve_var (pv 12))) (toO (ve_bin op_addD r_add (toO (ve_var (pv 9))) (toO ve_int))) (nomark _)))))))))) (fun _ _ _ _ _ => (ve_var (pv 12))))
    (vss_cons (vs_if (vt_cmp (op_eqB hu) r_eq (toO (ve_callB call_len r_len (by rfl) B.len (by decide +kernel) (vo_cons (toO (ve_var (v11 _))) vo_nil))) (toO ve_int) (nomark _))
    (vss_one (vs_set nd rfl (.inl rfl) (ofF (vf_lst (va_cons (ve_ix (toO (ve_var (v10 _))) (toO ve_int) (fun _ _ => rfl)) va_nil)))))
    vss_nil)
    (vss_cons (vs_app (v6 _) (ve_ix (toO (ve_var (v10 _))) (toO ve_int) (fun _ _ => rfl)))
    (vss_cons (vs_app (v7 _) (ve_ix (toO (ofF (vf_lst (va_cons (ve_ix (toO (ve_var (v10 _))) (toO ve_int) (fun _ _ => rfl)) (va_cons (ve_ix (toO (ve_var (v10 _))) (toO ve_int) (fun _ _ => rfl)) (va_cons (ve_bin op_mod r_mod (toO (ve_callTy call_int1 r_toInt (by rfl) B.int (by decide +kernel) (vo_cons (toO (ve_ix (toO (ve_var (v10 _))) (toO ve_int) (fun _ _ => rfl))) vo_nil))) (toO ve_int)) va_nil)))))) (toO (ve_ix (toO (ve_var (v4 _))) (toO ve_int) (fun _ _ => rfl))) (fun _ _ => rfl)))
    (vss_one (vs_app (v8 _) (ve_var (v11 _))))))))))
    (vss_one (vs_frz 8 (vs_frz 7 (vs_frz 6 (vs_retF (vf_lst (va_cons (ve_var (v6 _)) (va_cons (ve_var (v7 _)) (va_cons (ve_var (v8 _)) va_nil))))))))))))))))
theorem d_law_graph {P : Program} {wd : World} {K : PySem.W.Frag} {mg : Str → Option Value} {base : Heap} {cl : Nat → ClsT} (B : Bt mg) (kk : Ks K cl) (a_law_graph : At K mg "_law_graph" s_law_graph) (c_law_digits : Def P wd K mg base cl 1 "_law_digits" 2 digits2F) (c_law_cell : Def P wd K mg base cl 1 "_law_cell" 2 cellF) : Def P wd K mg base cl 2 "_law_graph" 4 graphF :=
  def_of a_law_graph sc_law_graph (fun _ _ F => F.binds (ps := ["script", "at", "count", "top"]) fun _ _ _ _ _ _ us hl => match us, hl with | [_, _, _, _], _ => rfl) fun f cdv A outer s H E G0 H0 sf hr => b_law_graph (k := 1) B kk (c_law_digits.mono (by decide)) (c_law_cell.mono (by decide)) hr

/-! _law_sets -/
abbrev s_law_sets : Stmt := top 20
abbrev N_law_sets : List Str := ["script", "at", "count", "row", "other", "goal", "inside", "v"]
theorem sc_law_sets : FnScope N_law_sets ["script", "at", "count"] (defScope s_law_sets) := ⟨rfl, rfl, rfl, by decide +kernel, rfl, by decide +kernel, by decide +kernel⟩
def m_law_sets : Sf :=
    (sSeq (sSet 3 (eCall digits2F (aCons (eCall cellF (aCons (eVar 0) (aCons (eVar 1) aNil))) (aCons (fL (aBin oCatL (fL (aLst (aCons (eC (.int 4)) (aCons (eC (.int 3)) (aCons (eBin oAdd (eVar 2) (eC (.int 1))) aNil))))) (fL (aComp (aRng1 (aCons (eVar 2) aNil)) (.nm 7) tYesF (eC (.int 4)))))) aNil))))
    (sSeq (sSet 4 (eCall digits2F (aCons (eCall cellF (aCons (eVar 0) (aCons (eBin oAdd (eVar 1) (eC (.int 1))) aNil))) (aCons (fL (aComp (aRng1 (aCons (eVar 2) aNil)) (.nm 7) tYesF (eC (.int 4)))) aNil))))
    (sSeq (sSet 5 (fL (aComp (aRng1 (aCons (eVar 2) aNil)) (.nm 7) tYesF (eBin oIx (fL (aLst (aCons (eBin oEq (eVar 7) (eBin oIx (eVar 3) (eC (.int 2)))) (aCons (eBin oEq (eBin oIx (eVar 3) (eBin oAdd (eC (.int 3)) (eVar 7))) (eC (.int 0))) (aCons (eBin oLt (eBin oIx (eVar 3) (eBin oAdd (eC (.int 3)) (eVar 7))) (eC (.int 2))) (aCons (eOr (eBin oEq (eVar 7) (eBin oIx (eVar 3) (eC (.int 2)))) (eBin oEq (eVar 7) (eBin oSub (eVar 2) (eC (.int 1))))) aNil)))))) (eBin oIx (eVar 3) (eC (.int 0)))))))
    (sSeq (sSet 6 (fL (aComp (aRng1 (aCons (eVar 2) aNil)) (.nm 7) tYesF (eOr (eBin oIx (eVar 5) (eVar 7)) (eOr (eBin oEq (eBin oIx (eVar 3) (eC (.int 1))) (eC (.int 0))) (eBin oGt (eBin oIx (eVar 4) (eVar 7)) (eBin oIx (fL (aLst (aCons (eC (.int 0)) (aCons (eC (.int 0)) (aCons (eC (.int 1)) aNil))))) (eBin oIx (eVar 3) (eC (.int 1))))))))))
    (sRetF (aLst (aCons (eVar 5) (aCons (eVar 6) aNil))))))))
def F_law_sets : List D → Ret := runF 8 m_law_sets
theorem b_law_sets {P : Program} {wd : World} {K : PySem.W.Frag} {mg : Str → Option Value} {base : Heap} {cl : Nat → ClsT} {k : Nat} (B : Bt mg) (kk : Ks K cl) (c_law_digits : Def P wd K mg base cl k "_law_digits" 2 digits2F) (c_law_cell : Def P wd K mg base cl k "_law_cell" 2 cellF)
    {f : Addr} {cdv : Value} {A : Around} {outer : List PySem.Env} {s : Shared} {H : Hp} {E : XK} {G0 H0 : Hp} {sf : Addr} (hr : Room k (A.deeper (envOfC "_law_sets" (defScope s_law_sets) s.heap.objs.size f cdv))) :
    VSs ⟨cl, G0, H0, sf⟩ (XX P wd K mg base N_law_sets "_law_sets" (defScope s_law_sets) f cdv A outer s H E) (defBody s_law_sets) (m_law_sets) := by
  have hr0 := hr
  have hu : (XX P wd K mg base N_law_sets "_law_sets" (defScope s_law_sets) f cdv A outer s H E).A.units + 64 < cLine := hr.units
  have nd : (XX P wd K mg base N_law_sets "_law_sets" (defScope s_law_sets) f cdv A outer s H E).N.Nodup := sc_law_sets.nd
  have v0 : ∀ pos, PE (XX P wd K mg base N_law_sets "_law_sets" (defScope s_law_sets) f cdv A outer s H E) (.Name "script" pos) (tVar 0) := fun _ => pv 0
  have v1 : ∀ pos, PE (XX P wd K mg base N_law_sets "_law_sets" (defScope s_law_sets) f cdv A outer s H E) (.Name "at" pos) (tVar 1) := fun _ => pv 1
  have v2 : ∀ pos, PE (XX P wd K mg base N_law_sets "_law_sets" (defScope s_law_sets) f cdv A outer s H E) (.Name "count" pos) (tVar 2) := fun _ => pv 2
  have v5 : ∀ pos, PE (XX P wd K mg base N_law_sets "_law_sets" (defScope s_law_sets) f cdv A outer s H E) (.Name "goal" pos) (tVar 5) := fun _ => pv 5
  have v6 : ∀ pos, PE (XX P wd K mg base N_law_sets "_law_sets" (defScope s_law_sets) f cdv A outer s H E) (.Name "inside" pos) (tVar 6) := fun _ => pv 6
  exact (vss_cons (vs_set nd rfl (.inr rfl) (ve_call c_law_digits hr0 (by rfl) (va_cons (ve_call c_law_cell hr0 (by rfl) (va_cons (ve_var (v0 _)) (va_cons (ve_var (v1 _)) va_nil)) (alen_cons (alen_cons alen_nil))) (va_cons (ofF (vf_bin op_cat r_catL (toO (ofF (vf_lst (va_cons ve_int (va_cons ve_int (va_cons (ve_bin op_addD r_add (toO (ve_var (v2 _))) (toO ve_int)) va_nil)))))) (toO (ofF (vf_comp rfl nd (vi_range1 (by rfl) B.range (vo_cons (toO (ve_var (v2 _))) vo_nil)) (blkOk_by (own := [("v", 7)]) (N := N_law_sets) (sc := (defScope s_law_sets)) (by decide +kernel)) rfl (fun _ _ _ _ _ => (vg_nm nd rfl (by first | exact .inl rfl | exact .inr rfl))) (fun _ _ _ _ _ => vts_nil) (fun _ _ _ _ _ => ve_int)))))) va_nil)) (alen_cons (alen_cons alen_nil))))
    (vss_cons (vs_set nd rfl (.inr rfl) (ve_call c_law_digits hr0 (by rfl) (va_cons (ve_call c_law_cell hr0 (by rfl) (va_cons (ve_var (v0 _)) (va_cons (ve_bin op_addD r_add (toO (ve_var (v1 _))) (toO ve_int)) va_nil)) (alen_cons (alen_cons alen_nil))) (va_cons (ofF (vf_comp rfl nd (vi_range1 (by rfl) B.range (vo_cons (toO (ve_var (v2 _))) vo_nil)) (blkOk_by (own := [("v", 7)]) (N := N_law_sets) (sc := (defScope s_law_sets)) (by decide +kernel)) rfl (fun _ _ _ _ _ => (vg_nm nd rfl (by first | exact .inl rfl | exact .inr rfl))) (fun _ _ _ _ _ => vts_nil) (fun _ _ _ _ _ => ve_int))) va_nil)) (alen_cons (alen_cons alen_nil))))
    (vss_cons (vs_set nd rfl (.inr rfl) (ofF (vf_comp rfl nd (vi_range1 (by rfl) B.range (vo_cons (toO (ve_var (v2 _))) vo_nil)) (blkOk_by (own := [("v", 7)]) (N := N_law_sets) (sc := (defScope s_law_sets)) (by decide +kernel)) rfl (fun _ _ _ _ _ => (vg_nm nd rfl (by first | exact .inl rfl | exact .inr rfl))) (fun _ _ _ _ _ => vts_nil) (fun _ _ _ _ _ => (ve_ix (toO (ofF (vf_lst (va_cons (ve_cmp (op_eqB hu) r_eq (toO (ve_var (pv 7))) (toO (ve_ix (toO (ve_var (pv 3))) (toO ve_int) (fun _ _ => rfl))) (nomark _)) (va_cons (ve_cmp (op_eqB hu) r_eq (toO (ve_ix (toO (ve_var (pv 3))) (toO (ve_bin op_addD r_add (toO ve_int) (toO (ve_var (pv 7))))) (fun _ _ => rfl))) (toO ve_int) (nomark _)) (va_cons (ve_cmp op_lt r_cmp (toO (ve_ix (toO (ve_var (pv 3))) (toO (ve_bin op_addD r_add (toO ve_int) (toO (ve_var (pv 7))))) (fun _ _ => rfl))) (toO ve_int) (nomark _)) (va_cons (ve_or (ve_cmp (op_eqB hu) r_eq (toO (ve_var (pv 7))) (toO (ve_ix (toO (ve_var (pv 3))) (toO ve_int) (fun _ _ => rfl))) (nomark _)) (ve_one (ve_cmp (op_eqB hu) r_eq (toO (ve_var (pv 7))) (toO (ve_bin op_sub r_sub (toO (ve_var (pv 2))) (toO ve_int))) (nomark _)))) va_nil))))))) (toO (ve_ix (toO (ve_var (pv 3))) (toO ve_int) (fun _ _ => rfl))) (fun _ _ => rfl))))))
    (vss_cons (vs_setCs rfl nd rfl rfl (sw_true rfl rfl rfl (by decide +kernel)) (vi_range1 (by rfl) B.range (vo_cons (toO (ve_var (v2 _))) vo_nil)) (blkOk_by (own := [("v", 7)]) (N := N_law_sets) (sc := (defScope s_law_sets)) (by decide +kernel)) rfl (fun _ _ _ _ _ => (vg_nm nd rfl (by first | exact .inl rfl | exact .inr rfl))) (fun _ _ _ _ _ => vts_nil) (fun _ _ _ _ _ => (ve_or (ve_ix (toO (ve_var (pv 5))) (toO (ve_var (pv 7))) (fun _ _ => rfl)) (ve_or (ve_cmp (op_eqB hu) r_eq (toO (ve_ix (toO (ve_var (pv 3))) (toO ve_int) (fun _ _ => rfl))) (toO ve_int) (nomark _)) (ve_one (ve_cmp op_gt r_cmp (toO (ve_ix (toO (ve_var (pv 4))) (toO (ve_var (pv 7))) (fun _ _ => rfl))) (toO (ve_ix (toO (ofF (vf_lst (va_cons ve_int (va_cons ve_int (va_cons ve_int va_nil)))))) (toO (ve_ix (toO (ve_var (pv 3))) (toO ve_int) (fun _ _ => rfl))) (fun _ _ => rfl))) (nomark _)))))))
    (vss_one (vs_retF (vf_lst (va_cons (ve_var (v5 _)) (va_cons (ve_var (v6 _)) va_nil)))))))))
theorem d_law_sets {P : Program} {wd : World} {K : PySem.W.Frag} {mg : Str → Option Value} {base : Heap} {cl : Nat → ClsT} (B : Bt mg) (kk : Ks K cl) (a_law_sets : At K mg "_law_sets" s_law_sets) (c_law_digits : Def P wd K mg base cl 1 "_law_digits" 2 digits2F) (c_law_cell : Def P wd K mg base cl 1 "_law_cell" 2 cellF) : Def P wd K mg base cl 2 "_law_sets" 3 F_law_sets :=
  def_of a_law_sets sc_law_sets (fun _ _ F => F.binds (ps := ["script", "at", "count"]) fun _ _ _ _ _ _ us hl => match us, hl with | [_, _, _], _ => rfl) fun f cdv A outer s H E G0 H0 sf hr => b_law_sets (k := 1) B kk (c_law_digits.mono (by decide)) (c_law_cell.mono (by decide)) hr

/-! _law_set -/
abbrev s_law_set : Stmt := top 21
abbrev N_law_set : List Str := ["flags", "shape", "chosen", "v"]
theorem sc_law_set : FnScope N_law_set ["flags", "shape"] (defScope s_law_set) := ⟨rfl, rfl, rfl, by decide +kernel, rfl, by decide +kernel, by decide +kernel⟩
def m_law_set : Sf :=
    (sSeq (sSet 2 (fL (aComp (aRng1 (aCons (eArgs oLen (aCons (eVar 0) aNil)) aNil)) (.nm 3) (tB1 (eBin oIx (eVar 0) (eVar 3))) (eVar 3))))
    (sRet (eBin oIx (fL (aLst (aCons (eVar 2) (aCons (eArgs oTuple (aCons (eVar 2) aNil)) aNil)))) (eBin oMod (eArgs oToInt (aCons (eVar 1) aNil)) (eC (.int 2))))))
def F_law_set : List D → Ret := runF 4 m_law_set
theorem b_law_set {P : Program} {wd : World} {K : PySem.W.Frag} {mg : Str → Option Value} {base : Heap} {cl : Nat → ClsT} {k : Nat} (B : Bt mg) (kk : Ks K cl)
    {f : Addr} {cdv : Value} {A : Around} {outer : List PySem.Env} {s : Shared} {H : Hp} {E : XK} {G0 H0 : Hp} {sf : Addr} (hr : Room k (A.deeper (envOfC "_law_set" (defScope s_law_set) s.heap.objs.size f cdv))) :
    VSs ⟨cl, G0, H0, sf⟩ (XX P wd K mg base N_law_set "_law_set" (defScope s_law_set) f cdv A outer s H E) (defBody s_law_set) (m_law_set) := by
  have hr0 := hr
  have hu : (XX P wd K mg base N_law_set "_law_set" (defScope s_law_set) f cdv A outer s H E).A.units + 64 < cLine := hr.units
  have nd : (XX P wd K mg base N_law_set "_law_set" (defScope s_law_set) f cdv A outer s H E).N.Nodup := sc_law_set.nd
  have v0 : ∀ pos, PE (XX P wd K mg base N_law_set "_law_set" (defScope s_law_set) f cdv A outer s H E) (.Name "flags" pos) (tVar 0) := fun _ => pv 0
  have v1 : ∀ pos, PE (XX P wd K mg base N_law_set "_law_set" (defScope s_law_set) f cdv A outer s H E) (.Name "shape" pos) (tVar 1) := fun _ => pv 1
  have v2 : ∀ pos, PE (XX P wd K mg base N_law_set "_law_set" (defScope s_law_set) f cdv A outer s H E) (.Name "chosen" pos) (tVar 2) := fun _ => pv 2
  exact (vss_cons (vs_setCs rfl nd rfl rfl (sw_true rfl rfl rfl (by decide +kernel)) (vi_range1 (by rfl) B.range (vo_cons (toO (ve_callB call_len r_len (by rfl) B.len (by decide +kernel) (vo_cons (toO (ve_var (v0 _))) vo_nil))) vo_nil)) (blkOk_by (own := [("v", 3)]) (N := N_law_set) (sc := (defScope s_law_set)) (by decide +kernel)) rfl (fun _ _ _ _ _ => (vg_nm nd rfl (by first | exact .inl rfl | exact .inr rfl))) (fun _ _ _ _ _ => (vts_one (vt_val (ve_ix (toO (ve_var (pv 0))) (toO (ve_var (pv 3))) (fun _ _ => rfl))))) (fun _ _ _ _ _ => (ve_var (pv 3))))
    (vss_one (vs_ret (ve_ix (toO (ofF (vf_lst (va_cons (ve_var (v2 _)) (va_cons (ve_callTy call_tuple_of r_tuple (by rfl) B.tuple (by decide +kernel) (vo_cons (toO (ve_var (v2 _))) vo_nil)) va_nil))))) (toO (ve_bin op_mod r_mod (toO (ve_callTy call_int1 r_toInt (by rfl) B.int (by decide +kernel) (vo_cons (toO (ve_var (v1 _))) vo_nil))) (toO ve_int))) (fun _ _ => rfl)))))
theorem d_law_set {P : Program} {wd : World} {K : PySem.W.Frag} {mg : Str → Option Value} {base : Heap} {cl : Nat → ClsT} (B : Bt mg) (kk : Ks K cl) (a_law_set : At K mg "_law_set" s_law_set) : Def P wd K mg base cl 1 "_law_set" 2 F_law_set :=
  def_of a_law_set sc_law_set (fun _ _ F => F.binds (ps := ["flags", "shape"]) fun _ _ _ _ _ _ us hl => match us, hl with | [_, _], _ => rfl) fun f cdv A outer s H E G0 H0 sf hr => b_law_set (k := 0) B kk hr

/-! _law_numbers -/
abbrev s_law_numbers : Stmt := top 22
abbrev N_law_numbers : List Str := ["game", "who", "goal", "inside", "found", "turn", "fresh", "v", "near", "done", "flag", "u"]
theorem sc_law_numbers : FnScope N_law_numbers ["game", "who", "goal", "inside"] (defScope s_law_numbers) := ⟨rfl, rfl, rfl, by decide +kernel, rfl, by decide +kernel, by decide +kernel⟩
def m_law_numbers : Sf :=
    (sSeq (sSetF 4 (aComp (aItems (eVar 2)) (.nm 10) tYesF (eBin oIx (fL (aLst (aCons (eC .non) (aCons (eC (.int 0)) aNil)))) (eArgs oToInt (aCons (eVar 10) aNil)))))
    (sSeq (sFor (aRng2 (aCons (eC (.int 1)) (aCons (eBin oAdd (eArgs oLen (aCons (eVar 3) aNil)) (eC (.int 1))) aNil))) (.nm 5)
    (sSeq (sSetF 6 (aLst aNil))
    (sSeq (sFor (aRng1 (aCons (eArgs oLen (aCons (eVar 3) aNil)) aNil)) (.nm 7)
    (sIf (tAndF (tB1 (eBin oIx (eVar 3) (eVar 7))) (tB1 (eBin oIsN (eBin oIx (eOwn 4) (eVar 7)) (eC .non))))
    (sSeq (sSet 8 (fL (aComp (aItems (eBin oIx (eBin oIx (eVar 0) (eC (.int 2))) (eVar 7))) (.nm 11) (tB1 (eBin oIx (eVar 3) (eVar 11))) (eVar 11))))
    (sSeq (sSet 9 (fL (aComp (aItems (eVar 8)) (.nm 11) (tB1 (eBin oNotN (eBin oIx (eOwn 4) (eVar 11)) (eC .non))) (eVar 11))))
    (sIf (tAndF (tB1 (eBin oGt (eArgs oLen (aCons (eVar 9) aNil)) (eC (.int 0)))) (tOrF (tB1 (eBin oEq (eBin oIx (eBin oIx (eVar 0) (eC (.int 0))) (eVar 7)) (eVar 1))) (tB1 (eBin oEq (eArgs oLen (aCons (eVar 9) aNil)) (eArgs oLen (aCons (eVar 8) aNil))))))
    (sApp 6 (eVar 7))
    sNext)))
    sNext))
    (sSeq (sFrz 6 (sFor (aItems (eVar 6)) (.nm 7)
    (sSto 4 (eVar 7) (eVar 5))))
    (sIf (tB1 (eBin oEq (eArgs oLen (aCons (eOwn 6) aNil)) (eC (.int 0))))
    sBreak
    sNext)))))
    (sRetV 4)))
def F_law_numbers : List D → Ret := runF 12 m_law_numbers
theorem b_law_numbers {P : Program} {wd : World} {K : PySem.W.Frag} {mg : Str → Option Value} {base : Heap} {cl : Nat → ClsT} {k : Nat} (B : Bt mg) (kk : Ks K cl)
    {f : Addr} {cdv : Value} {A : Around} {outer : List PySem.Env} {s : Shared} {H : Hp} {E : XK} {G0 H0 : Hp} {sf : Addr} (hr : Room k (A.deeper (envOfC "_law_numbers" (defScope s_law_numbers) s.heap.objs.size f cdv))) :
    VSs ⟨cl, G0, H0, sf⟩ (XX P wd K mg base N_law_numbers "_law_numbers" (defScope s_law_numbers) f cdv A outer s H E) (defBody s_law_numbers) (m_law_numbers) := by
  have hr0 := hr
  have hu : (XX P wd K mg base N_law_numbers "_law_numbers" (defScope s_law_numbers) f cdv A outer s H E).A.units + 64 < cLine := hr.units
  have nd : (XX P wd K mg base N_law_numbers "_law_numbers" (defScope s_law_numbers) f cdv A outer s H E).N.Nodup := sc_law_numbers.nd
  have v0 : ∀ pos, PE (XX P wd K mg base N_law_numbers "_law_numbers" (defScope s_law_numbers) f cdv A outer s H E) (.Name "game" pos) (tVar 0) := fun _ => pv 0
  have v1 : ∀ pos, PE (XX P wd K mg base N_law_numbers "_law_numbers" (defScope s_law_numbers) f cdv A outer s H E) (.Name "who" pos) (tVar 1) := fun _ => pv 1
  have v2 : ∀ pos, PE (XX P wd K mg base N_law_numbers "_law_numbers" (defScope s_law_numbers) f cdv A outer s H E) (.Name "goal" pos) (tVar 2) := fun _ => pv 2
  have v3 : ∀ pos, PE (XX P wd K mg base N_law_numbers "_law_numbers" (defScope s_law_numbers) f cdv A outer s H E) (.Name "inside" pos) (tVar 3) := fun _ => pv 3
  have v4 : ∀ pos, PE (XX P wd K mg base N_law_numbers "_law_numbers" (defScope s_law_numbers) f cdv A outer s H E) (.Name "found" pos) (tVar 4) := fun _ => pv 4
  have v5 : ∀ pos, PE (XX P wd K mg base N_law_numbers "_law_numbers" (defScope s_law_numbers) f cdv A outer s H E) (.Name "turn" pos) (tVar 5) := fun _ => pv 5
  have v6 : ∀ pos, PE (XX P wd K mg base N_law_numbers "_law_numbers" (defScope s_law_numbers) f cdv A outer s H E) (.Name "fresh" pos) (tVar 6) := fun _ => pv 6
  have v7 : ∀ pos, PE (XX P wd K mg base N_law_numbers "_law_numbers" (defScope s_law_numbers) f cdv A outer s H E) (.Name "v" pos) (tVar 7) := fun _ => pv 7
  have v8 : ∀ pos, PE (XX P wd K mg base N_law_numbers "_law_numbers" (defScope s_law_numbers) f cdv A outer s H E) (.Name "near" pos) (tVar 8) := fun _ => pv 8
  have v9 : ∀ pos, PE (XX P wd K mg base N_law_numbers "_law_numbers" (defScope s_law_numbers) f cdv A outer s H E) (.Name "done" pos) (tVar 9) := fun _ => pv 9
  exact (vss_cons (vs_setF nd rfl (.inr rfl) (vf_comp rfl nd (vi_items (ve_var (v2 _))) (blkOk_by (own := [("flag", 10)]) (N := N_law_numbers) (sc := (defScope s_law_numbers)) (by decide +kernel)) rfl (fun _ _ _ _ _ => (vg_nm nd rfl (by first | exact .inl rfl | exact .inr rfl))) (fun _ _ _ _ _ => vts_nil) (fun _ _ _ _ _ => (ve_ix (toO (ofF (vf_lst (va_cons ve_non (va_cons ve_int va_nil))))) (toO (ve_callTy call_int1 r_toInt (by rfl) B.int (by decide +kernel) (vo_cons (toO (ve_var (pv 10))) vo_nil))) (fun _ _ => rfl)))))
    (vss_cons (vs_for PassesOwn.never rfl (vi_range2 (by rfl) B.range (vo_cons (toO ve_int) (vo_cons (toO (ve_bin op_addD r_add (toO (ve_callB call_len r_len (by rfl) B.len (by decide +kernel) (vo_cons (toO (ve_var (v3 _))) vo_nil))) (toO ve_int))) vo_nil))) (vg_nm nd rfl (.inl rfl))
    (vss_cons (vs_setF nd rfl (.inl rfl) (vf_lst va_nil))
    (vss_cons (vs_for PassesOwn.never rfl (vi_range1 (by rfl) B.range (vo_cons (toO (ve_callB call_len r_len (by rfl) B.len (by decide +kernel) (vo_cons (toO (ve_var (v3 _))) vo_nil))) vo_nil)) (vg_nm nd rfl (.inl rfl))
    (vss_one (vs_if (vt_w (vw_and (vt_val (ve_ix (toO (ve_var (v3 _))) (toO (ve_var (v7 _))) (fun _ _ => rfl))) (vw_and1 (vt_cmp op_isN r_isN (toO (ve_ix (vo_var (v4 _)) (toO (ve_var (v7 _))) (fun _ _ => rfl))) (toO ve_non) (nomark _)))))
    (vss_cons (vs_setCs rfl nd rfl rfl (sw_true rfl rfl rfl (by decide +kernel)) (vi_items (ve_ix (toO (ve_ix (toO (ve_var (v0 _))) (toO ve_int) (fun _ _ => rfl))) (toO (ve_var (v7 _))) (fun _ _ => rfl))) (blkOk_by (own := [("u", 11)]) (N := N_law_numbers) (sc := (defScope s_law_numbers)) (by decide +kernel)) rfl (fun _ _ _ _ _ => (vg_nm nd rfl (by first | exact .inl rfl | exact .inr rfl))) (fun _ _ _ _ _ => (vts_one (vt_val (ve_ix (toO (ve_var (pv 3))) (toO (ve_var (pv 11))) (fun _ _ => rfl))))) (fun _ _ _ _ _ => (ve_var (pv 11))))
    (vss_cons (vs_setCs rfl nd rfl rfl (sw_true rfl rfl rfl (by decide +kernel)) (vi_items (ve_var (v8 _))) (blkOk_by (own := [("u", 11)]) (N := N_law_numbers) (sc := (defScope s_law_numbers)) (by decide +kernel)) rfl (fun _ _ _ _ _ => (vg_nm nd rfl (by first | exact .inl rfl | exact .inr rfl))) (fun _ _ _ _ _ => (vts_one (vt_cmp op_notN r_notN (toO (ve_ix (vo_var (pv 4)) (toO (ve_var (pv 11))) (fun _ _ => rfl))) (toO ve_non) (nomark _)))) (fun _ _ _ _ _ => (ve_var (pv 11))))
    (vss_one (vs_if (vt_w (vw_and (vt_cmp op_gt r_cmp (toO (ve_callB call_len r_len (by rfl) B.len (by decide +kernel) (vo_cons (toO (ve_var (v9 _))) vo_nil))) (toO ve_int) (nomark _)) (vw_and1 (vt_w (vw_or (vt_cmp (op_eqB hu) r_eq (toO (ve_ix (toO (ve_ix (toO (ve_var (v0 _))) (toO ve_int) (fun _ _ => rfl))) (toO (ve_var (v7 _))) (fun _ _ => rfl))) (toO (ve_var (v1 _))) (nomark _)) (vw_or1 (vt_cmp (op_eqB hu) r_eq (toO (ve_callB call_len r_len (by rfl) B.len (by decide +kernel) (vo_cons (toO (ve_var (v9 _))) vo_nil))) (toO (ve_callB call_len r_len (by rfl) B.len (by decide +kernel) (vo_cons (toO (ve_var (v8 _))) vo_nil))) (nomark _))))))))
    (vss_one (vs_app (v6 _) (ve_var (v7 _))))
    vss_nil))))
    vss_nil)))
    (vss_cons (vs_frz 6 (vs_for PassesOwn.never rfl (vi_items (ve_var (v6 _))) (vg_nm nd rfl (.inl rfl))
    (vss_one (vs_sto (v4 _) (ve_var (v7 _)) (ve_var (v5 _))))))
    (vss_one (vs_if (vt_cmp (op_eqB hu) r_eq (toO (ve_callB call_len r_len (by rfl) B.len (by decide +kernel) (vo_cons (vo_var (v6 _)) vo_nil))) (toO ve_int) (nomark _))
    (vss_one vs_break)
    vss_nil))))))
    (vss_one (vs_retV (v4 _)))))
theorem d_law_numbers {P : Program} {wd : World} {K : PySem.W.Frag} {mg : Str → Option Value} {base : Heap} {cl : Nat → ClsT} (B : Bt mg) (kk : Ks K cl) (a_law_numbers : At K mg "_law_numbers" s_law_numbers) : Def P wd K mg base cl 1 "_law_numbers" 4 F_law_numbers :=
  def_of a_law_numbers sc_law_numbers (fun _ _ F => F.binds (ps := ["game", "who", "goal", "inside"]) fun _ _ _ _ _ _ us hl => match us, hl with | [_, _, _, _], _ => rfl) fun f cdv A outer s H E G0 H0 sf hr => b_law_numbers (k := 0) B kk hr

/-! _law_trap -/
abbrev s_law_trap : Stmt := top 23
abbrev N_law_trap : List Str := ["game", "who", "chosen", "inside", "v", "moves", "away", "u"]
theorem sc_law_trap : FnScope N_law_trap ["game", "who", "chosen", "inside"] (defScope s_law_trap) := ⟨rfl, rfl, rfl, by decide +kernel, rfl, by decide +kernel, by decide +kernel⟩
def m_law_trap : Sf :=
    (sSeq (sFor (aRng1 (aCons (eArgs oLen (aCons (eVar 2) aNil)) aNil)) (.nm 4)
    (sIf (tB1 (eBin oIx (eVar 2) (eVar 4)))
    (sSeq (sSet 5 (fL (aComp (aItems (eBin oIx (eBin oIx (eVar 0) (eC (.int 2))) (eVar 4))) (.nm 7) (tB1 (eBin oIx (eVar 3) (eVar 7))) (eVar 7))))
    (sSeq (sSet 6 (fL (aComp (aItems (eVar 5)) (.nm 7) (tNotF (tB1 (eBin oIx (eVar 2) (eVar 7)))) (eVar 7))))
    (sSeq (sIf (tAndF (tB1 (eBin oEq (eBin oIx (eBin oIx (eVar 0) (eC (.int 0))) (eVar 4)) (eVar 1))) (tB1 (eBin oGt (eArgs oLen (aCons (eVar 6) aNil)) (eC (.int 0)))))
    (sRet (eC (.bl false)))
    sNext)
    (sIf (tAndF (tB1 (eBin oNe (eBin oIx (eBin oIx (eVar 0) (eC (.int 0))) (eVar 4)) (eVar 1))) (tB1 (eBin oEq (eArgs oLen (aCons (eVar 6) aNil)) (eArgs oLen (aCons (eVar 5) aNil)))))
    (sRet (eC (.bl false)))
    sNext))))
    sNext))
    (sRet (eC (.bl true))))
def F_law_trap : List D → Ret := runF 8 m_law_trap
theorem b_law_trap {P : Program} {wd : World} {K : PySem.W.Frag} {mg : Str → Option Value} {base : Heap} {cl : Nat → ClsT} {k : Nat} (B : Bt mg) (kk : Ks K cl)
    {f : Addr} {cdv : Value} {A : Around} {outer : List PySem.Env} {s : Shared} {H : Hp} {E : XK} {G0 H0 : Hp} {sf : Addr} (hr : Room k (A.deeper (envOfC "_law_trap" (defScope s_law_trap) s.heap.objs.size f cdv))) :
    VSs ⟨cl, G0, H0, sf⟩ (XX P wd K mg base N_law_trap "_law_trap" (defScope s_law_trap) f cdv A outer s H E) (defBody s_law_trap) (m_law_trap) := by
  have hr0 := hr
  have hu : (XX P wd K mg base N_law_trap "_law_trap" (defScope s_law_trap) f cdv A outer s H E).A.units + 64 < cLine := hr.units
  have nd : (XX P wd K mg base N_law_trap "_law_trap" (defScope s_law_trap) f cdv A outer s H E).N.Nodup := sc_law_trap.nd
  have v0 : ∀ pos, PE (XX P wd K mg base N_law_trap "_law_trap" (defScope s_law_trap) f cdv A outer s H E) (.Name "game" pos) (tVar 0) := fun _ => pv 0
  have v1 : ∀ pos, PE (XX P wd K mg base N_law_trap "_law_trap" (defScope s_law_trap) f cdv A outer s H E) (.Name "who" pos) (tVar 1) := fun _ => pv 1
  have v2 : ∀ pos, PE (XX P wd K mg base N_law_trap "_law_trap" (defScope s_law_trap) f cdv A outer s H E) (.Name "chosen" pos) (tVar 2) := fun _ => pv 2
  have v4 : ∀ pos, PE (XX P wd K mg base N_law_trap "_law_trap" (defScope s_law_trap) f cdv A outer s H E) (.Name "v" pos) (tVar 4) := fun _ => pv 4
  have v5 : ∀ pos, PE (XX P wd K mg base N_law_trap "_law_trap" (defScope s_law_trap) f cdv A outer s H E) (.Name "moves" pos) (tVar 5) := fun _ => pv 5
  have v6 : ∀ pos, PE (XX P wd K mg base N_law_trap "_law_trap" (defScope s_law_trap) f cdv A outer s H E) (.Name "away" pos) (tVar 6) := fun _ => pv 6
  exact (vss_cons (vs_for PassesOwn.never rfl (vi_range1 (by rfl) B.range (vo_cons (toO (ve_callB call_len r_len (by rfl) B.len (by decide +kernel) (vo_cons (toO (ve_var (v2 _))) vo_nil))) vo_nil)) (vg_nm nd rfl (.inl rfl))
    (vss_one (vs_if (vt_val (ve_ix (toO (ve_var (v2 _))) (toO (ve_var (v4 _))) (fun _ _ => rfl)))
    (vss_cons (vs_setCs rfl nd rfl rfl (sw_true rfl rfl rfl (by decide +kernel)) (vi_items (ve_ix (toO (ve_ix (toO (ve_var (v0 _))) (toO ve_int) (fun _ _ => rfl))) (toO (ve_var (v4 _))) (fun _ _ => rfl))) (blkOk_by (own := [("u", 7)]) (N := N_law_trap) (sc := (defScope s_law_trap)) (by decide +kernel)) rfl (fun _ _ _ _ _ => (vg_nm nd rfl (by first | exact .inl rfl | exact .inr rfl))) (fun _ _ _ _ _ => (vts_one (vt_val (ve_ix (toO (ve_var (pv 3))) (toO (ve_var (pv 7))) (fun _ _ => rfl))))) (fun _ _ _ _ _ => (ve_var (pv 7))))
    (vss_cons (vs_setCs rfl nd rfl rfl (sw_true rfl rfl rfl (by decide +kernel)) (vi_items (ve_var (v5 _))) (blkOk_by (own := [("u", 7)]) (N := N_law_trap) (sc := (defScope s_law_trap)) (by decide +kernel)) rfl (fun _ _ _ _ _ => (vg_nm nd rfl (by first | exact .inl rfl | exact .inr rfl))) (fun _ _ _ _ _ => (vts_one (vt_not (vt_val (ve_ix (toO (ve_var (pv 2))) (toO (ve_var (pv 7))) (fun _ _ => rfl)))))) (fun _ _ _ _ _ => (ve_var (pv 7))))
    (vss_cons (vs_if (vt_w (vw_and (vt_cmp (op_eqB hu) r_eq (toO (ve_ix (toO (ve_ix (toO (ve_var (v0 _))) (toO ve_int) (fun _ _ => rfl))) (toO (ve_var (v4 _))) (fun _ _ => rfl))) (toO (ve_var (v1 _))) (nomark _)) (vw_and1 (vt_cmp op_gt r_cmp (toO (ve_callB call_len r_len (by rfl) B.len (by decide +kernel) (vo_cons (toO (ve_var (v6 _))) vo_nil))) (toO ve_int) (nomark _)))))
    (vss_one (vs_ret ve_bl))
    vss_nil)
    (vss_one (vs_if (vt_w (vw_and (vt_cmp (op_neB hu) r_ne (toO (ve_ix (toO (ve_ix (toO (ve_var (v0 _))) (toO ve_int) (fun _ _ => rfl))) (toO (ve_var (v4 _))) (fun _ _ => rfl))) (toO (ve_var (v1 _))) (nomark _)) (vw_and1 (vt_cmp (op_eqB hu) r_eq (toO (ve_callB call_len r_len (by rfl) B.len (by decide +kernel) (vo_cons (toO (ve_var (v6 _))) vo_nil))) (toO (ve_callB call_len r_len (by rfl) B.len (by decide +kernel) (vo_cons (toO (ve_var (v5 _))) vo_nil))) (nomark _)))))
    (vss_one (vs_ret ve_bl))
    vss_nil)))))
    vss_nil)))
    (vss_one (vs_ret ve_bl)))
theorem d_law_trap {P : Program} {wd : World} {K : PySem.W.Frag} {mg : Str → Option Value} {base : Heap} {cl : Nat → ClsT} (B : Bt mg) (kk : Ks K cl) (a_law_trap : At K mg "_law_trap" s_law_trap) : Def P wd K mg base cl 1 "_law_trap" 4 F_law_trap :=
  def_of a_law_trap sc_law_trap (fun _ _ F => F.binds (ps := ["game", "who", "chosen", "inside"]) fun _ _ _ _ _ _ us hl => match us, hl with | [_, _, _, _], _ => rfl) fun f cdv A outer s H E G0 H0 sf hr => b_law_trap (k := 0) B kk hr

/-! _law_right -/
abbrev s_law_right : Stmt := top 24
abbrev N_law_right : List Str := ["games", "game", "who", "chosen", "inside", "shape", "vertices", "around", "everything", "told", "due", "v", "one"]
theorem sc_law_right : FnScope N_law_right ["games", "game", "who", "chosen", "inside", "shape"] (defScope s_law_right) := ⟨rfl, rfl, rfl, by decide +kernel, rfl, by decide +kernel, by decide +kernel⟩
def m_law_right : Sf :=
    (sSeq (sSet 6 (eCall F_law_set (aCons (eVar 3) (aCons (eVar 5) aNil))))
    (sSeq (sSet 7 (eCall F_law_set (aCons (eVar 4) (aCons (eBin oFdiv (eArgs oToInt (aCons (eVar 5) aNil)) (eC (.int 2))) aNil))))
    (sSeq (sSet 8 (fL (aLR1 (eArgs oLen (aCons (eVar 4) aNil)))))
    (sSeq (sSet 9 (fL (aLst (aCons (eCallK F_is_trap (aCons (eBin oIx (eVar 0) (eC (.int 0))) (aCons (eVar 2) (aCons (eVar 6) aNil))) (eVar 7)) (aCons (eCallK F_is_trap (aCons (eBin oIx (eVar 0) (eC (.int 1))) (aCons (eBin oSub (eC (.int 1)) (eVar 2)) (aCons (eVar 6) aNil))) (eVar 7)) aNil)))))
    (sSeq (sSet 10 (eCall F_law_trap (aCons (eVar 1) (aCons (eVar 2) (aCons (eVar 3) (aCons (eVar 4) aNil))))))
    (sSeq (sIf (tB1 (eBin oNe (eArgs oLen (aCons (fL (aComp (aItems (eVar 9)) (.nm 12) (tAndF (tB1 (eArgs oIsi (aCons (eVar 12) (aCons (eC (.ty "bool")) aNil)))) (tB1 (eBin oEq (eVar 12) (eVar 10)))) (eVar 12))) aNil)) (eC (.int 2))))
    (sRet (eC (.bl false)))
    sNext)
    (sSeq (sSet 9 (fL (aLst (aCons (eCallD F_is_trap D.non (aCons (eBin oIx (eVar 0) (eC (.int 0))) (aCons (eVar 2) (aCons (eVar 6) aNil)))) (aCons (eCallK F_is_trap (aCons (eBin oIx (eVar 0) (eC (.int 0))) (aCons (eVar 2) (aCons (eVar 6) aNil))) (eC .non)) (aCons (eCallK F_is_trap (aCons (eBin oIx (eVar 0) (eC (.int 1))) (aCons (eBin oSub (eC (.int 1)) (eVar 2)) (aCons (eVar 6) aNil))) (eVar 8)) aNil))))))
    (sSeq (sSet 10 (eCall F_law_trap (aCons (eVar 1) (aCons (eVar 2) (aCons (eVar 3) (aCons (fL (aComp (aItems (eVar 4)) (.nm 11) tYesF (eC (.bl true)))) aNil))))))
    (sSeq (sIf (tB1 (eBin oNe (eArgs oLen (aCons (fL (aComp (aItems (eVar 9)) (.nm 12) (tAndF (tB1 (eArgs oIsi (aCons (eVar 12) (aCons (eC (.ty "bool")) aNil)))) (tB1 (eBin oEq (eVar 12) (eVar 10)))) (eVar 12))) aNil)) (eC (.int 3))))
    (sRet (eC (.bl false)))
    sNext)
    (sRet (eBin oEq (fL (aLst (aCons (eVar 6) (aCons (eVar 7) aNil)))) (fL (aLst (aCons (eCall F_law_set (aCons (eVar 3) (aCons (eVar 5) aNil))) (aCons (eCall F_law_set (aCons (eVar 4) (aCons (eBin oFdiv (eArgs oToInt (aCons (eVar 5) aNil)) (eC (.int 2))) aNil))) aNil)))))))))))))))
def F_law_right : List D → Ret := runF 13 m_law_right
theorem b_law_right {P : Program} {wd : World} {K : PySem.W.Frag} {mg : Str → Option Value} {base : Heap} {cl : Nat → ClsT} {k : Nat} (B : Bt mg) (kk : Ks K cl) (c_law_set : Def P wd K mg base cl k "_law_set" 2 F_law_set) (c_is_trap : DefK P wd K mg base cl k "is_trap" 3 "within" D.non F_is_trap) (c_law_trap : Def P wd K mg base cl k "_law_trap" 4 F_law_trap)
    {f : Addr} {cdv : Value} {A : Around} {outer : List PySem.Env} {s : Shared} {H : Hp} {E : XK} {G0 H0 : Hp} {sf : Addr} (hr : Room k (A.deeper (envOfC "_law_right" (defScope s_law_right) s.heap.objs.size f cdv))) :
    VSs ⟨cl, G0, H0, sf⟩ (XX P wd K mg base N_law_right "_law_right" (defScope s_law_right) f cdv A outer s H E) (defBody s_law_right) (m_law_right) := by
  have hr0 := hr
  have hu : (XX P wd K mg base N_law_right "_law_right" (defScope s_law_right) f cdv A outer s H E).A.units + 64 < cLine := hr.units
  have nd : (XX P wd K mg base N_law_right "_law_right" (defScope s_law_right) f cdv A outer s H E).N.Nodup := sc_law_right.nd
  have v0 : ∀ pos, PE (XX P wd K mg base N_law_right "_law_right" (defScope s_law_right) f cdv A outer s H E) (.Name "games" pos) (tVar 0) := fun _ => pv 0
  have v1 : ∀ pos, PE (XX P wd K mg base N_law_right "_law_right" (defScope s_law_right) f cdv A outer s H E) (.Name "game" pos) (tVar 1) := fun _ => pv 1
  have v2 : ∀ pos, PE (XX P wd K mg base N_law_right "_law_right" (defScope s_law_right) f cdv A outer s H E) (.Name "who" pos) (tVar 2) := fun _ => pv 2
  have v3 : ∀ pos, PE (XX P wd K mg base N_law_right "_law_right" (defScope s_law_right) f cdv A outer s H E) (.Name "chosen" pos) (tVar 3) := fun _ => pv 3
  have v4 : ∀ pos, PE (XX P wd K mg base N_law_right "_law_right" (defScope s_law_right) f cdv A outer s H E) (.Name "inside" pos) (tVar 4) := fun _ => pv 4
  have v5 : ∀ pos, PE (XX P wd K mg base N_law_right "_law_right" (defScope s_law_right) f cdv A outer s H E) (.Name "shape" pos) (tVar 5) := fun _ => pv 5
  have v6 : ∀ pos, PE (XX P wd K mg base N_law_right "_law_right" (defScope s_law_right) f cdv A outer s H E) (.Name "vertices" pos) (tVar 6) := fun _ => pv 6
  have v7 : ∀ pos, PE (XX P wd K mg base N_law_right "_law_right" (defScope s_law_right) f cdv A outer s H E) (.Name "around" pos) (tVar 7) := fun _ => pv 7
  have v8 : ∀ pos, PE (XX P wd K mg base N_law_right "_law_right" (defScope s_law_right) f cdv A outer s H E) (.Name "everything" pos) (tVar 8) := fun _ => pv 8
  have v9 : ∀ pos, PE (XX P wd K mg base N_law_right "_law_right" (defScope s_law_right) f cdv A outer s H E) (.Name "told" pos) (tVar 9) := fun _ => pv 9
  exact (vss_cons (vs_set nd rfl (.inl rfl) (ve_call c_law_set hr0 (by rfl) (va_cons (ve_var (v3 _)) (va_cons (ve_var (v5 _)) va_nil)) (alen_cons (alen_cons alen_nil))))
    (vss_cons (vs_set nd rfl (.inl rfl) (ve_call c_law_set hr0 (by rfl) (va_cons (ve_var (v4 _)) (va_cons (ve_bin op_fdiv r_fdiv (toO (ve_callTy call_int1 r_toInt (by rfl) B.int (by decide +kernel) (vo_cons (toO (ve_var (v5 _))) vo_nil))) (toO ve_int)) va_nil)) (alen_cons (alen_cons alen_nil))))
    (vss_cons (vs_set nd rfl (.inl rfl) (ofF (vf_listRg1 rfl (by rfl) B.list (by rfl) B.range (toO (ve_callB call_len r_len (by rfl) B.len (by decide +kernel) (vo_cons (toO (ve_var (v4 _))) vo_nil))))))
    (vss_cons (vs_set nd rfl (.inl rfl) (ofF (vf_lst (va_cons (ve_callK c_is_trap hr0 (by rfl) (va_cons (ve_ix (toO (ve_var (v0 _))) (toO ve_int) (fun _ _ => rfl)) (va_cons (ve_var (v2 _)) (va_cons (ve_var (v6 _)) va_nil))) (alen_cons (alen_cons (alen_cons alen_nil))) (ve_var (v7 _))) (va_cons (ve_callK c_is_trap hr0 (by rfl) (va_cons (ve_ix (toO (ve_var (v0 _))) (toO ve_int) (fun _ _ => rfl)) (va_cons (ve_bin op_sub r_sub (toO ve_int) (toO (ve_var (v2 _)))) (va_cons (ve_var (v6 _)) va_nil))) (alen_cons (alen_cons (alen_cons alen_nil))) (ve_var (v7 _))) va_nil)))))
    (vss_cons (vs_set nd rfl (.inr rfl) (ve_call c_law_trap hr0 (by rfl) (va_cons (ve_var (v1 _)) (va_cons (ve_var (v2 _)) (va_cons (ve_var (v3 _)) (va_cons (ve_var (v4 _)) va_nil)))) (alen_cons (alen_cons (alen_cons (alen_cons alen_nil))))))
    (vss_cons (vs_if (vt_cmp (op_neB hu) r_ne (toO (ve_callB call_len r_len (by rfl) B.len (by decide +kernel) (vo_cons (toO (ofF (vf_comp rfl nd (vi_items (ve_var (v9 _))) (blkOk_by (own := [("one", 12)]) (N := N_law_right) (sc := (defScope s_law_right)) (by decide +kernel)) rfl (fun _ _ _ _ _ => (vg_nm nd rfl (by first | exact .inl rfl | exact .inr rfl))) (fun _ _ _ _ _ => (vts_one (vt_w (vw_and (vt_val (ve_callB call_isiD r_isi (by rfl) B.isinstance (by decide +kernel) (vo_cons (toO (ve_var (pv 12))) (vo_cons (toO (ve_ty (by rfl) B.bool (by decide +kernel))) vo_nil)))) (vw_and1 (vt_cmp (op_eqB hu) r_eq (toO (ve_var (pv 12))) (toO (ve_var (pv 10))) (nomark _))))))) (fun _ _ _ _ _ => (ve_var (pv 12)))))) vo_nil))) (toO ve_int) (nomark _))
    (vss_one (vs_ret ve_bl))
    vss_nil)
    (vss_cons (vs_set nd rfl (.inl rfl) (ofF (vf_lst (va_cons (ve_callKd c_is_trap hr0 (by rfl) (va_cons (ve_ix (toO (ve_var (v0 _))) (toO ve_int) (fun _ _ => rfl)) (va_cons (ve_var (v2 _)) (va_cons (ve_var (v6 _)) va_nil))) (alen_cons (alen_cons (alen_cons alen_nil)))) (va_cons (ve_callK c_is_trap hr0 (by rfl) (va_cons (ve_ix (toO (ve_var (v0 _))) (toO ve_int) (fun _ _ => rfl)) (va_cons (ve_var (v2 _)) (va_cons (ve_var (v6 _)) va_nil))) (alen_cons (alen_cons (alen_cons alen_nil))) ve_non) (va_cons (ve_callK c_is_trap hr0 (by rfl) (va_cons (ve_ix (toO (ve_var (v0 _))) (toO ve_int) (fun _ _ => rfl)) (va_cons (ve_bin op_sub r_sub (toO ve_int) (toO (ve_var (v2 _)))) (va_cons (ve_var (v6 _)) va_nil))) (alen_cons (alen_cons (alen_cons alen_nil))) (ve_var (v8 _))) va_nil))))))
    (vss_cons (vs_set nd rfl (.inr rfl) (ve_call c_law_trap hr0 (by rfl) (va_cons (ve_var (v1 _)) (va_cons (ve_var (v2 _)) (va_cons (ve_var (v3 _)) (va_cons (ofF (vf_comp rfl nd (vi_items (ve_var (v4 _))) (blkOk_by (own := [("v", 11)]) (N := N_law_right) (sc := (defScope s_law_right)) (by decide +kernel)) rfl (fun _ _ _ _ _ => (vg_nm nd rfl (by first | exact .inl rfl | exact .inr rfl))) (fun _ _ _ _ _ => vts_nil) (fun _ _ _ _ _ => ve_bl))) va_nil)))) (alen_cons (alen_cons (alen_cons (alen_cons alen_nil))))))
    (vss_cons (vs_if (vt_cmp (op_neB hu) r_ne (toO (ve_callB call_len r_len (by rfl) B.len (by decide +kernel) (vo_cons (toO (ofF (vf_comp rfl nd (vi_items (ve_var (v9 _))) (blkOk_by (own := [("one", 12)]) (N := N_law_right) (sc := (defScope s_law_right)) (by decide +kernel)) rfl (fun _ _ _ _ _ => (vg_nm nd rfl (by first | exact .inl rfl | exact .inr rfl))) (fun _ _ _ _ _ => (vts_one (vt_w (vw_and (vt_val (ve_callB call_isiD r_isi (by rfl) B.isinstance (by decide +kernel) (vo_cons (toO (ve_var (pv 12))) (vo_cons (toO (ve_ty (by rfl) B.bool (by decide +kernel))) vo_nil)))) (vw_and1 (vt_cmp (op_eqB hu) r_eq (toO (ve_var (pv 12))) (toO (ve_var (pv 10))) (nomark _))))))) (fun _ _ _ _ _ => (ve_var (pv 12)))))) vo_nil))) (toO ve_int) (nomark _))
    (vss_one (vs_ret ve_bl))
    vss_nil)
    (vss_one (vs_ret (ve_cmp (op_eqB hu) r_eq (toO (ofF (vf_lst (va_cons (ve_var (v6 _)) (va_cons (ve_var (v7 _)) va_nil))))) (toO (ofF (vf_lst (va_cons (ve_call c_law_set hr0 (by rfl) (va_cons (ve_var (v3 _)) (va_cons (ve_var (v5 _)) va_nil)) (alen_cons (alen_cons alen_nil))) (va_cons (ve_call c_law_set hr0 (by rfl) (va_cons (ve_var (v4 _)) (va_cons (ve_bin op_fdiv r_fdiv (toO (ve_callTy call_int1 r_toInt (by rfl) B.int (by decide +kernel) (vo_cons (toO (ve_var (v5 _))) vo_nil))) (toO ve_int)) va_nil)) (alen_cons (alen_cons alen_nil))) va_nil))))) (nomark _)))))))))))))
theorem d_law_right {P : Program} {wd : World} {K : PySem.W.Frag} {mg : Str → Option Value} {base : Heap} {cl : Nat → ClsT} (B : Bt mg) (kk : Ks K cl) (a_law_right : At K mg "_law_right" s_law_right) (c_law_set : Def P wd K mg base cl 1 "_law_set" 2 F_law_set) (c_is_trap : DefK P wd K mg base cl 5 "is_trap" 3 "within" D.non F_is_trap) (c_law_trap : Def P wd K mg base cl 1 "_law_trap" 4 F_law_trap) : Def P wd K mg base cl 6 "_law_right" 6 F_law_right :=
  def_of a_law_right sc_law_right (fun _ _ F => F.binds (ps := ["games", "game", "who", "chosen", "inside", "shape"]) fun _ _ _ _ _ _ us hl => match us, hl with | [_, _, _, _, _, _], _ => rfl) fun f cdv A outer s H E G0 H0 sf hr => b_law_right (k := 5) B kk (c_law_set.mono (by decide)) (c_is_trap.mono (by decide)) (c_law_trap.mono (by decide)) hr

/-! law -/
abbrev s_law : Stmt := top 25
abbrev N_law : List Str := ["script", "head", "count", "game", "sets", "made", "games", "found", "chosen", "place", "none", "who", "v", "rows", "row", "owner", "u"]
theorem sc_law : FnScope N_law ["script"] (defScope s_law) := ⟨rfl, rfl, rfl, by decide +kernel, rfl, by decide +kernel, by decide +kernel⟩
def m_law : Sf :=
    (sSeq (sSet 1 (eCall digits2F (aCons (eCall cellF (aCons (eVar 0) (aCons (eC (.int 0)) aNil))) (aCons (fL (aLst (aCons (eC (.int 2)) (aCons (eC (.int 11)) (aCons (eC (.int 4)) (aCons (eC (.int 2)) (aCons (eC (.int 4)) (aCons (eC (.int 2)) (aCons (eC (.int 11)) (aCons (eC (.int 9)) (aCons (eC (.int 41)) aNil))))))))))) aNil))))
    (sSeq (sSet 2 (eBin oIx (fL (aLst (aCons (eBin oIx (eVar 1) (eC (.int 1))) (aCons (eBin oAdd (eC (.int 7)) (eBin oIx (eVar 1) (eC (.int 2)))) aNil)))) (eBin oIx (eVar 1) (eC (.int 0)))))
    (sSeq (sIf (tB1 (eBin oEq (eBin oIx (eVar 1) (eC (.int 7))) (eC (.int 8))))
    (sSet 2 (eBin oIx (eVar 1) (eC (.int 8))))
    sNext)
    (sSeq (sSet 3 (eCall graphF (aCons (eVar 0) (aCons (eC (.int 3)) (aCons (eVar 2) (aCons (eC (.int 30)) aNil))))))
    (sSeq (sSet 4 (eCall F_law_sets (aCons (eVar 0) (aCons (eC (.int 1)) (aCons (eVar 2) aNil)))))
    (sSeq (sSet 5 (fW (aMake 0 Game_initF (aCons (fL (aArgs oList (aCons (eBin oIx (eVar 3) (eC (.int 0))) aNil))) (aCons (fL (aArgs oList (aCons (eBin oIx (eVar 3) (eC (.int 1))) aNil))) (aCons (fL (aComp (aItems (eBin oIx (eVar 3) (eC (.int 2)))) (.nm 14) tYesF (fL (aArgs oList (aCons (eVar 14) aNil))))) aNil))))))
    (sSeq (sSet 6 (fL (aLst (aCons (eVar 5) (aCons (fW (aMake 0 Game_initF (aCons (fL (aComp (aItems (eBin oIx (eVar 3) (eC (.int 0)))) (.nm 15) tYesF (eBin oSub (eC (.int 1)) (eVar 15)))) (aCons (fL (aArgs oList (aCons (eBin oIx (eVar 3) (eC (.int 1))) aNil))) (aCons (fL (aComp (aItems (eBin oIx (eVar 3) (eC (.int 2)))) (.nm 14) tYesF (fL (aArgs oList (aCons (eVar 14) aNil))))) aNil))))) aNil)))))
    (sSeq (sSet 7 (eCall F_law_numbers (aCons (eVar 3) (aCons (eBin oIx (eVar 1) (eC (.int 3))) (aCons (eBin oIx (eVar 4) (eC (.int 0))) (aCons (eBin oIx (eVar 4) (eC (.int 1))) aNil))))))
    (sSeq (sSetF 8 (aComp (aRng1 (aCons (eVar 2) aNil)) (.nm 12) tYesF (eAnd (eBin oIx (eBin oIx (eVar 4) (eC (.int 1))) (eVar 12)) (eBin oIsN (eBin oIx (eVar 7) (eVar 12)) (eC .non)))))
    (sSeq (sIf (tAndF (tB1 (eBin oEq (eBin oIx (eVar 1) (eC (.int 5))) (eC (.int 1)))) (tB1 (eBin oLt (eBin oIx (eVar 1) (eC (.int 6))) (eVar 2))))
    (sSeq (sSet 9 (eBin oIx (eVar 1) (eC (.int 6))))
    (sSto 8 (eVar 9) (eAnd (eBin oIx (eBin oIx (eVar 4) (eC (.int 1))) (eVar 9)) (e1o oNot (eBin oIx (eOwn 8) (eVar 9))))))
    sNext)
    (sSeq (sSet 10 (fL (aComp (aRng1 (aCons (eVar 2) aNil)) (.nm 12) tYesF (eC (.bl false)))))
    (sSeq (sFor (aItems (fL (aLst (aCons (eC (.int 0)) (aCons (eC (.int 1)) (aCons (eC (.int 0)) aNil)))))) (.nm 11)
    (sSeq (sFrz 8 (sIf (tOrF (tNotF (tB1 (eCall F_law_right (aCons (eVar 6) (aCons (eVar 3) (aCons (eVar 11) (aCons (eVar 8) (aCons (eBin oIx (eVar 4) (eC (.int 1))) (aCons (eBin oIx (eVar 1) (eC (.int 4))) aNil))))))))) (tNotF (tB1 (eCall F_law_right (aCons (eVar 6) (aCons (eVar 3) (aCons (eVar 11) (aCons (eVar 10) (aCons (eBin oIx (eVar 4) (eC (.int 1))) (aCons (eBin oIx (eVar 1) (eC (.int 4))) aNil))))))))))
    (sRet (eC (.bl false)))
    sNext))
    (sSeq (sIf (tNotF (tB1 (eCall F_law_right (aCons (eVar 6) (aCons (eVar 3) (aCons (eVar 11) (aCons (eBin oIx (eVar 4) (eC (.int 1))) (aCons (eBin oIx (eVar 4) (eC (.int 1))) (aCons (eBin oAdd (eBin oIx (eVar 1) (eC (.int 4))) (eC (.int 1))) aNil)))))))))
    (sRet (eC (.bl false)))
    sNext)
    (sFor (aItems (fL (aBin oCatL (fL (aLR1 (eArgs oMin2 (aCons (eVar 2) (aCons (eC (.int 10)) aNil))))) (fL (aLR2 (eArgs oMax2 (aCons (eC (.int 10)) (aCons (eBin oSub (eVar 2) (eC (.int 1))) aNil))) (eVar 2)))))) (.nm 12)
    (sIf (tAndF (tB1 (eBin oIx (eBin oIx (eVar 4) (eC (.int 1))) (eVar 12))) (tNotF (tB1 (eCall F_law_right (aCons (eVar 6) (aCons (eVar 3) (aCons (eVar 11) (aCons (fL (aComp (aRng1 (aCons (eVar 2) aNil)) (.nm 16) tYesF (eBin oEq (eVar 16) (eVar 12)))) (aCons (eBin oIx (eVar 4) (eC (.int 1))) (aCons (eBin oAdd (eBin oIx (eVar 1) (eC (.int 4))) (eVar 12)) aNil))))))))))
    (sRet (eC (.bl false)))
    sNext)))))
    (sSeq (sSet 13 (eArgs oTuple (aCons (fL (aComp (aItems (eBin oIx (eVar 3) (eC (.int 2)))) (.nm 14) tYesF (eArgs oTuple (aCons (eVar 14) aNil)))) aNil)))
    (sRet (eBin oEq (eTup (aCons (e1o (oFld 0 0) (eVar 5)) (aCons (e1o (oFld 0 1) (eVar 5)) (aCons (e1o (oFld 0 2) (eVar 5)) aNil)))) (eTup (aCons (eArgs oTuple (aCons (eBin oIx (eVar 3) (eC (.int 0))) aNil)) (aCons (eArgs oTuple (aCons (eBin oIx (eVar 3) (eC (.int 1))) aNil)) (aCons (eVar 13) aNil)))))))))))))))))))
def F_law : List D → Ret := runF 17 m_law
theorem b_law {P : Program} {wd : World} {K : PySem.W.Frag} {mg : Str → Option Value} {base : Heap} {cl : Nat → ClsT} {k : Nat} (B : Bt mg) (kk : Ks K cl) (c_law_digits : Def P wd K mg base cl k "_law_digits" 2 digits2F) (c_law_cell : Def P wd K mg base cl k "_law_cell" 2 cellF) (c_law_graph : Def P wd K mg base cl k "_law_graph" 4 graphF) (c_law_sets : Def P wd K mg base cl k "_law_sets" 3 F_law_sets) (c_Game_init : MkD P wd K mg base cl k 0 "Game" 3 Game_initF) (c_law_numbers : Def P wd K mg base cl k "_law_numbers" 4 F_law_numbers) (c_law_right : Def P wd K mg base cl k "_law_right" 6 F_law_right)
    {f : Addr} {cdv : Value} {A : Around} {outer : List PySem.Env} {s : Shared} {H : Hp} {E : XK} {G0 H0 : Hp} {sf : Addr} (hr : Room (k + 1) (A.deeper (envOfC "law" (defScope s_law) s.heap.objs.size f cdv))) :
    VSs ⟨cl, G0, H0, sf⟩ (XX P wd K mg base N_law "law" (defScope s_law) f cdv A outer s H E) (defBody s_law) (m_law) := by
  have hr0 := hr.mono (Nat.le_succ k)
  have hu : (XX P wd K mg base N_law "law" (defScope s_law) f cdv A outer s H E).A.units + 64 < cLine := hr.units
  have nd : (XX P wd K mg base N_law "law" (defScope s_law) f cdv A outer s H E).N.Nodup := sc_law.nd
  have v0 : ∀ pos, PE (XX P wd K mg base N_law "law" (defScope s_law) f cdv A outer s H E) (.Name "script" pos) (tVar 0) := fun _ => pv 0
  have v1 : ∀ pos, PE (XX P wd K mg base N_law "law" (defScope s_law) f cdv A outer s H E) (.Name "head" pos) (tVar 1) := fun _ => pv 1
  have v2 : ∀ pos, PE (XX P wd K mg base N_law "law" (defScope s_law) f cdv A outer s H E) (.Name "count" pos) (tVar 2) := fun _ => pv 2
  have v3 : ∀ pos, PE (XX P wd K mg base N_law "law" (defScope s_law) f cdv A outer s H E) (.Name "game" pos) (tVar 3) := fun _ => pv 3
  have v4 : ∀ pos, PE (XX P wd K mg base N_law "law" (defScope s_law) f cdv A outer s H E) (.Name "sets" pos) (tVar 4) := fun _ => pv 4
  have v5 : ∀ pos, PE (XX P wd K mg base N_law "law" (defScope s_law) f cdv A outer s H E) (.Name "made" pos) (tVar 5) := fun _ => pv 5
  have v6 : ∀ pos, PE (XX P wd K mg base N_law "law" (defScope s_law) f cdv A outer s H E) (.Name "games" pos) (tVar 6) := fun _ => pv 6
  have v8 : ∀ pos, PE (XX P wd K mg base N_law "law" (defScope s_law) f cdv A outer s H E) (.Name "chosen" pos) (tVar 8) := fun _ => pv 8
  have v9 : ∀ pos, PE (XX P wd K mg base N_law "law" (defScope s_law) f cdv A outer s H E) (.Name "place" pos) (tVar 9) := fun _ => pv 9
  have v10 : ∀ pos, PE (XX P wd K mg base N_law "law" (defScope s_law) f cdv A outer s H E) (.Name "none" pos) (tVar 10) := fun _ => pv 10
  have v11 : ∀ pos, PE (XX P wd K mg base N_law "law" (defScope s_law) f cdv A outer s H E) (.Name "who" pos) (tVar 11) := fun _ => pv 11
  have v12 : ∀ pos, PE (XX P wd K mg base N_law "law" (defScope s_law) f cdv A outer s H E) (.Name "v" pos) (tVar 12) := fun _ => pv 12
  have v13 : ∀ pos, PE (XX P wd K mg base N_law "law" (defScope s_law) f cdv A outer s H E) (.Name "rows" pos) (tVar 13) := fun _ => pv 13
  exact (vss_cons (vs_set nd rfl (.inl rfl) (ve_call c_law_digits hr0 (by rfl) (va_cons (ve_call c_law_cell hr0 (by rfl) (va_cons (ve_var (v0 _)) (va_cons ve_int va_nil)) (alen_cons (alen_cons alen_nil))) (va_cons (ofF (vf_lst (va_cons ve_int (va_cons ve_int (va_cons ve_int (va_cons ve_int (va_cons ve_int (va_cons ve_int (va_cons ve_int (va_cons ve_int (va_cons ve_int va_nil))))))))))) va_nil)) (alen_cons (alen_cons alen_nil))))
    (vss_cons (vs_set nd rfl (.inl rfl) (ve_ix (toO (ofF (vf_lst (va_cons (ve_ix (toO (ve_var (v1 _))) (toO ve_int) (fun _ _ => rfl)) (va_cons (ve_bin op_addD r_add (toO ve_int) (toO (ve_ix (toO (ve_var (v1 _))) (toO ve_int) (fun _ _ => rfl)))) va_nil))))) (toO (ve_ix (toO (ve_var (v1 _))) (toO ve_int) (fun _ _ => rfl))) (fun _ _ => rfl)))
    (vss_cons (vs_if (vt_cmp (op_eqB hu) r_eq (toO (ve_ix (toO (ve_var (v1 _))) (toO ve_int) (fun _ _ => rfl))) (toO ve_int) (nomark _))
    (vss_one (vs_set nd rfl (.inl rfl) (ve_ix (toO (ve_var (v1 _))) (toO ve_int) (fun _ _ => rfl))))
    vss_nil)
    (vss_cons (vs_set nd rfl (.inl rfl) (ve_call c_law_graph hr0 (by rfl) (va_cons (ve_var (v0 _)) (va_cons ve_int (va_cons (ve_var (v2 _)) (va_cons ve_int va_nil)))) (alen_cons (alen_cons (alen_cons (alen_cons alen_nil))))))
    (vss_cons (vs_set nd rfl (.inr rfl) (ve_call c_law_sets hr0 (by rfl) (va_cons (ve_var (v0 _)) (va_cons ve_int (va_cons (ve_var (v2 _)) va_nil))) (alen_cons (alen_cons (alen_cons alen_nil)))))
    (vss_cons (vs_set nd rfl (.inl rfl) (ofN (vn_make c_Game_init hr (by rfl) (va_cons (ofF (vf_callTy call_list_of r_list (by rfl) B.list (by decide +kernel) (vo_cons (toO (ve_ix (toO (ve_var (v3 _))) (toO ve_int) (fun _ _ => rfl))) vo_nil))) (va_cons (ofF (vf_callTy call_list_of r_list (by rfl) B.list (by decide +kernel) (vo_cons (toO (ve_ix (toO (ve_var (v3 _))) (toO ve_int) (fun _ _ => rfl))) vo_nil))) (va_cons (ofF (vf_comp rfl nd (vi_items (ve_ix (toO (ve_var (v3 _))) (toO ve_int) (fun _ _ => rfl))) (blkOk_by (own := [("row", 14)]) (N := N_law) (sc := (defScope s_law)) (by decide +kernel)) rfl (fun _ _ _ _ _ => (vg_nm nd rfl (by first | exact .inl rfl | exact .inr rfl))) (fun _ _ _ _ _ => vts_nil) (fun _ _ _ _ _ => (ofF (vf_callTy call_list_of r_list (by rfl) B.list (by decide +kernel) (vo_cons (toO (ve_var (pv 14))) vo_nil)))))) va_nil))) (alen_cons (alen_cons (alen_cons alen_nil))))))
    (vss_cons (vs_set nd rfl (.inl rfl) (ofF (vf_lst (va_cons (ve_var (v5 _)) (va_cons (ofN (vn_make c_Game_init hr (by rfl) (va_cons (ofF (vf_comp rfl nd (vi_items (ve_ix (toO (ve_var (v3 _))) (toO ve_int) (fun _ _ => rfl))) (blkOk_by (own := [("owner", 15)]) (N := N_law) (sc := (defScope s_law)) (by decide +kernel)) rfl (fun _ _ _ _ _ => (vg_nm nd rfl (by first | exact .inl rfl | exact .inr rfl))) (fun _ _ _ _ _ => vts_nil) (fun _ _ _ _ _ => (ve_bin op_sub r_sub (toO ve_int) (toO (ve_var (pv 15))))))) (va_cons (ofF (vf_callTy call_list_of r_list (by rfl) B.list (by decide +kernel) (vo_cons (toO (ve_ix (toO (ve_var (v3 _))) (toO ve_int) (fun _ _ => rfl))) vo_nil))) (va_cons (ofF (vf_comp rfl nd (vi_items (ve_ix (toO (ve_var (v3 _))) (toO ve_int) (fun _ _ => rfl))) (blkOk_by (own := [("row", 14)]) (N := N_law) (sc := (defScope s_law)) (by decide +kernel)) rfl (fun _ _ _ _ _ => (vg_nm nd rfl (by first | exact .inl rfl | exact .inr rfl))) (fun _ _ _ _ _ => vts_nil) (fun _ _ _ _ _ => (ofF (vf_callTy call_list_of r_list (by rfl) B.list (by decide +kernel) (vo_cons (toO (ve_var (pv 14))) vo_nil)))))) va_nil))) (alen_cons (alen_cons (alen_cons alen_nil))))) va_nil)))))
    (vss_cons (vs_set nd rfl (.inr rfl) (ve_call c_law_numbers hr0 (by rfl) (va_cons (ve_var (v3 _)) (va_cons (ve_ix (toO (ve_var (v1 _))) (toO ve_int) (fun _ _ => rfl)) (va_cons (ve_ix (toO (ve_var (v4 _))) (toO ve_int) (fun _ _ => rfl)) (va_cons (ve_ix (toO (ve_var (v4 _))) (toO ve_int) (fun _ _ => rfl)) va_nil)))) (alen_cons (alen_cons (alen_cons (alen_cons alen_nil))))))
    (vss_cons (vs_setC rfl nd rfl rfl (sw_true rfl rfl rfl (by decide +kernel)) (vi_range1 (by rfl) B.range (vo_cons (toO (ve_var (v2 _))) vo_nil)) (blkOk_by (own := [("v", 12)]) (N := N_law) (sc := (defScope s_law)) (by decide +kernel)) rfl (fun _ _ _ _ _ => (vg_nm nd rfl (by first | exact .inl rfl | exact .inr rfl))) (fun _ _ _ _ _ => vts_nil) (fun _ _ _ _ _ => (ve_and (ve_ix (toO (ve_ix (toO (ve_var (pv 4))) (toO ve_int) (fun _ _ => rfl))) (toO (ve_var (pv 12))) (fun _ _ => rfl)) (ve_one (ve_cmp op_isN r_isN (toO (ve_ix (toO (ve_var (pv 7))) (toO (ve_var (pv 12))) (fun _ _ => rfl))) (toO ve_non) (nomark _))))))
    (vss_cons (vs_if (vt_w (vw_and (vt_cmp (op_eqB hu) r_eq (toO (ve_ix (toO (ve_var (v1 _))) (toO ve_int) (fun _ _ => rfl))) (toO ve_int) (nomark _)) (vw_and1 (vt_cmp op_lt r_cmp (toO (ve_ix (toO (ve_var (v1 _))) (toO ve_int) (fun _ _ => rfl))) (toO (ve_var (v2 _))) (nomark _)))))
    (vss_cons (vs_set nd rfl (.inl rfl) (ve_ix (toO (ve_var (v1 _))) (toO ve_int) (fun _ _ => rfl)))
    (vss_one (vs_sto (v8 _) (ve_var (v9 _)) (ve_and (ve_ix (toO (ve_ix (toO (ve_var (v4 _))) (toO ve_int) (fun _ _ => rfl))) (toO (ve_var (v9 _))) (fun _ _ => rfl)) (ve_one (ve_not (ve_ix (vo_var (v8 _)) (toO (ve_var (v9 _))) (fun _ _ => rfl))))))))
    vss_nil)
    (vss_cons (vs_setCs rfl nd rfl rfl (sw_true rfl rfl rfl (by decide +kernel)) (vi_range1 (by rfl) B.range (vo_cons (toO (ve_var (v2 _))) vo_nil)) (blkOk_by (own := [("v", 12)]) (N := N_law) (sc := (defScope s_law)) (by decide +kernel)) rfl (fun _ _ _ _ _ => (vg_nm nd rfl (by first | exact .inl rfl | exact .inr rfl))) (fun _ _ _ _ _ => vts_nil) (fun _ _ _ _ _ => ve_bl))
    (vss_cons (vs_for PassesOwn.never rfl (vi_items (ofF (vf_lst (va_cons ve_int (va_cons ve_int (va_cons ve_int va_nil)))))) (vg_nm nd rfl (.inl rfl))
    (vss_cons (vs_frz 8 (vs_if (vt_w (vw_or (vt_not (vt_val (ve_call c_law_right hr0 (by rfl) (va_cons (ve_var (v6 _)) (va_cons (ve_var (v3 _)) (va_cons (ve_var (v11 _)) (va_cons (ve_var (v8 _)) (va_cons (ve_ix (toO (ve_var (v4 _))) (toO ve_int) (fun _ _ => rfl)) (va_cons (ve_ix (toO (ve_var (v1 _))) (toO ve_int) (fun _ _ => rfl)) va_nil)))))) (alen_cons (alen_cons (alen_cons (alen_cons (alen_cons (alen_cons alen_nil))))))))) (vw_or1 (vt_not (vt_val (ve_call c_law_right hr0 (by rfl) (va_cons (ve_var (v6 _)) (va_cons (ve_var (v3 _)) (va_cons (ve_var (v11 _)) (va_cons (ve_var (v10 _)) (va_cons (ve_ix (toO (ve_var (v4 _))) (toO ve_int) (fun _ _ => rfl)) (va_cons (ve_ix (toO (ve_var (v1 _))) (toO ve_int) (fun _ _ => rfl)) va_nil)))))) (alen_cons (alen_cons (alen_cons (alen_cons (alen_cons (alen_cons alen_nil))))))))))))
    (vss_one (vs_ret ve_bl))
    vss_nil))
    (vss_cons (vs_if (vt_not (vt_val (ve_call c_law_right hr0 (by rfl) (va_cons (ve_var (v6 _)) (va_cons (ve_var (v3 _)) (va_cons (ve_var (v11 _)) (va_cons (ve_ix (toO (ve_var (v4 _))) (toO ve_int) (fun _ _ => rfl)) (va_cons (ve_ix (toO (ve_var (v4 _))) (toO ve_int) (fun _ _ => rfl)) (va_cons (ve_bin op_addD r_add (toO (ve_ix (toO (ve_var (v1 _))) (toO ve_int) (fun _ _ => rfl))) (toO ve_int)) va_nil)))))) (alen_cons (alen_cons (alen_cons (alen_cons (alen_cons (alen_cons alen_nil)))))))))
    (vss_one (vs_ret ve_bl))
    vss_nil)
    (vss_one (vs_for PassesOwn.never rfl (vi_items (ofF (vf_bin op_cat r_catL (toO (ofF (vf_listRg1 rfl (by rfl) B.list (by rfl) B.range (toO (ve_callB (call_min2 rfl) r_min2 (by rfl) B.min (by decide +kernel) (vo_cons (toO (ve_var (v2 _))) (vo_cons (toO ve_int) vo_nil))))))) (toO (ofF (vf_listRg2 rfl (by rfl) B.list (by rfl) B.range (toO (ve_callB (call_max2 rfl) r_max2 (by rfl) B.max (by decide +kernel) (vo_cons (toO ve_int) (vo_cons (toO (ve_bin op_sub r_sub (toO (ve_var (v2 _))) (toO ve_int))) vo_nil)))) (toO (ve_var (v2 _))))))))) (vg_nm nd rfl (.inr rfl))
    (vss_one (vs_if (vt_w (vw_and (vt_val (ve_ix (toO (ve_ix (toO (ve_var (v4 _))) (toO ve_int) (fun _ _ => rfl))) (toO (ve_var (v12 _))) (fun _ _ => rfl))) (vw_and1 (vt_not (vt_val (ve_call c_law_right hr0 (by rfl) (va_cons (ve_var (v6 _)) (va_cons (ve_var (v3 _)) (va_cons (ve_var (v11 _)) (va_cons (ofF (vf_comp rfl nd (vi_range1 (by rfl) B.range (vo_cons (toO (ve_var (v2 _))) vo_nil)) (blkOk_by (own := [("u", 16)]) (N := N_law) (sc := (defScope s_law)) (by decide +kernel)) rfl (fun _ _ _ _ _ => (vg_nm nd rfl (by first | exact .inl rfl | exact .inr rfl))) (fun _ _ _ _ _ => vts_nil) (fun _ _ _ _ _ => (ve_cmp (op_eqB hu) r_eq (toO (ve_var (pv 16))) (toO (ve_var (pv 12))) (nomark _))))) (va_cons (ve_ix (toO (ve_var (v4 _))) (toO ve_int) (fun _ _ => rfl)) (va_cons (ve_bin op_addD r_add (toO (ve_ix (toO (ve_var (v1 _))) (toO ve_int) (fun _ _ => rfl))) (toO (ve_var (v12 _)))) va_nil)))))) (alen_cons (alen_cons (alen_cons (alen_cons (alen_cons (alen_cons alen_nil))))))))))))
    (vss_one (vs_ret ve_bl))
    vss_nil)))))))
    (vss_cons (vs_set nd rfl (.inl rfl) (ve_callTy call_tuple_of r_tuple (by rfl) B.tuple (by decide +kernel) (vo_cons (toO (ofF (vf_comp rfl nd (vi_items (ve_ix (toO (ve_var (v3 _))) (toO ve_int) (fun _ _ => rfl))) (blkOk_by (own := [("row", 14)]) (N := N_law) (sc := (defScope s_law)) (by decide +kernel)) rfl (fun _ _ _ _ _ => (vg_nm nd rfl (by first | exact .inl rfl | exact .inr rfl))) (fun _ _ _ _ _ => vts_nil) (fun _ _ _ _ _ => (ve_callTy call_tuple_of r_tuple (by rfl) B.tuple (by decide +kernel) (vo_cons (toO (ve_var (pv 14))) vo_nil)))))) vo_nil)))
    (vss_one (vs_ret (ve_cmp (op_eqB hu) r_eq (toO (ve_tup (va_cons (ve_fld kk.k_Game 0 rfl (toO (ve_var (v5 _)))) (va_cons (ve_fld kk.k_Game 1 rfl (toO (ve_var (v5 _)))) (va_cons (ve_fld kk.k_Game 2 rfl (toO (ve_var (v5 _)))) va_nil))))) (toO (ve_tup (va_cons (ve_callTy call_tuple_of r_tuple (by rfl) B.tuple (by decide +kernel) (vo_cons (toO (ve_ix (toO (ve_var (v3 _))) (toO ve_int) (fun _ _ => rfl))) vo_nil)) (va_cons (ve_callTy call_tuple_of r_tuple (by rfl) B.tuple (by decide +kernel) (vo_cons (toO (ve_ix (toO (ve_var (v3 _))) (toO ve_int) (fun _ _ => rfl))) vo_nil)) (va_cons (ve_var (v13 _)) va_nil))))) (nomark _)))))))))))))))))
theorem ok_law {P : Program} {wd : World} {K : PySem.W.Frag} {mg : Str → Option Value} {base : Heap} {cl : Nat → ClsT} (B : Bt mg) (kk : Ks K cl) (c_law_digits : Def P wd K mg base cl 1 "_law_digits" 2 digits2F) (c_law_cell : Def P wd K mg base cl 1 "_law_cell" 2 cellF) (c_law_graph : Def P wd K mg base cl 2 "_law_graph" 4 graphF) (c_law_sets : Def P wd K mg base cl 2 "_law_sets" 3 F_law_sets) (c_Game_init : MkD P wd K mg base cl 6 0 "Game" 3 Game_initF) (c_law_numbers : Def P wd K mg base cl 1 "_law_numbers" 4 F_law_numbers) (c_law_right : Def P wd K mg base cl 6 "_law_right" 6 F_law_right) {fl : Addr} {fd : FuncData} (Fn : Fun K "law" "law" s_law fl fd) : FnOk P wd K mg base CX0 8 fl fd ["script"] (spF K cl 1 F_law) :=
  fn_ok Fn sc_law fun cdv A outer s H E G0 H0 sf hr => b_law (k := 6) B kk (c_law_digits.mono (by decide)) (c_law_cell.mono (by decide)) (c_law_graph.mono (by decide)) (c_law_sets.mono (by decide)) (c_Game_init.mono (by decide)) (c_law_numbers.mono (by decide)) (c_law_right.mono (by decide)) hr

/-! the row's own end -/
def clsOf (cs : List ClsT) (i : Nat) : ClsT := cs.getD i ⟨0, []⟩
theorem all_mk {l : PySem.W.OpenLaw} {w : World} {K : PySem.W.Frag} {h : Heap} {mg : Str → Option Value} {fa C0 f1 f2 f3 f4 D4 f5 f6 f7 f8 f9 p9 f10 f11 f12 f13 f14 f15 f16 f17 f18 f19 : Addr} (X : K.In h) (G : h.Ns mainGlobals mg) (hfa : mg "law" = some (.ref fa))
    {od1 an1 od2 an2 od3 an3 od4 an4 od5 an5 od6 an6 od7 an7 od8 an8 od9 an9 od10 an10 od11 an11 od12 an12 od13 an13 od14 an14 od15 an15 od16 an16 od17 an17 od18 an18 od19 an19 : Option Addr} {sl1 sl2 sl3 sl4 sl5 sl6 sl7 sl8 sl9 sl10 sl11 sl12 sl13 sl14 sl15 sl16 sl17 sl18 sl19 : Array (Option Value)} {oc1 kV1 dc1 pm1 cd1 ct1 oc2 kV2 dc2 pm2 cd2 ct2 oc3 kV3 dc3 pm3 cd3 ct3 oc4 dc4 pm4 cd4 ct4 oc5 kV5 dc5 pm5 cd5 ct5 oc6 kV6 dc6 pm6 cd6 ct6 oc7 kV7 dc7 pm7 cd7 ct7 oc8 kV8 dc8 pm8 cd8 ct8 oc9 kV9 dc9 pm9 cd9 ct9 oc10 kV10 dc10 pm10 cd10 ct10 oc11 kV11 dc11 pm11 cd11 ct11 oc12 kV12 dc12 pm12 cd12 ct12 oc13 kV13 dc13 pm13 cd13 ct13 oc14 kV14 dc14 pm14 cd14 ct14 oc15 kV15 dc15 pm15 cd15 ct15 oc16 kV16 dc16 pm16 cd16 ct16 oc17 kV17 dc17 pm17 cd17 ct17 oc18 kV18 dc18 pm18 cd18 ct18 oc19 kV19 dc19 pm19 cd19 ct19 : Value} {rest9 : List Value} 
    (aC0 : PySem.W.nsIn K mainGlobals "Game" = some (some (.ref C0)))
    (pg0 : PySem.W.plainGet K C0 Str.empty = true)
    (hd0 : PySem.W.hasDictIn K C0 = true)
    (po0 : PySem.W.plainOver K C0 = true)
    (sa0 : PySem.W.findIn K (.ref C0) "__setattr__" = some (some (.builtin "object.__setattr__")))
    (nf0_0 : PySem.W.findIn K (.ref C0) "owners" = some none)
    (nf0_1 : PySem.W.findIn K (.ref C0) "priorities" = some none)
    (nf0_2 : PySem.W.findIn K (.ref C0) "successors" = some none)
    (nf0_3 : PySem.W.findIn K (.ref C0) "height" = some none)
    (a1 : PySem.W.nsIn K mainGlobals "flags_of" = some (some (.ref f1)))
    (l1 : K.lookup f1 = some ⟨oc1, od1, .func (PySem.W.fnOf "flags_of" "flags_of" (defArgs s_flags_of) (defBody s_flags_of) (defScope s_flags_of) .none kV1 dc1 pm1 an1 cd1 ct1), sl1⟩)
    (c1 : PySem.W.codeIn K cd1 "flags_of" = true)
    (k1 : PySem.W.keepIn K (.ref f1) = true)
    (a2 : PySem.W.findIn K (.ref C0) "__len__" = some (some (.ref f2)))
    (i2 : PySem.W.isFn K (.ref f2) = true)
    (l2 : K.lookup f2 = some ⟨oc2, od2, .func (PySem.W.fnOf "__len__" "Game.__len__" (defArgs s_Game_len) (defBody s_Game_len) (defScope s_Game_len) .none kV2 dc2 pm2 an2 cd2 ct2), sl2⟩)
    (c2 : PySem.W.codeIn K cd2 "Game.__len__" = true)
    (k2 : PySem.W.keepIn K (.ref f2) = true)
    (a3 : PySem.W.nsIn K mainGlobals "flags_within" = some (some (.ref f3)))
    (l3 : K.lookup f3 = some ⟨oc3, od3, .func (PySem.W.fnOf "flags_within" "flags_within" (defArgs s_flags_within) (defBody s_flags_within) (defScope s_flags_within) .none kV3 dc3 pm3 an3 cd3 ct3), sl3⟩)
    (c3 : PySem.W.codeIn K cd3 "flags_within" = true)
    (k3 : PySem.W.keepIn K (.ref f3) = true)
    (a4 : PySem.W.nsIn K mainGlobals "is_trap" = some (some (.ref f4)))
    (l4 : K.lookup f4 = some ⟨oc4, od4, .func (PySem.W.fnOf "is_trap" "is_trap" (defArgs s_is_trap) (defBody s_is_trap) (defScope s_is_trap) .none (.ref D4) dc4 pm4 an4 cd4 ct4), sl4⟩)
    (w4 : PySem.W.nsIn K D4 "within" = some (some .none))
    (c4 : PySem.W.codeIn K cd4 "is_trap" = true)
    (k4 : PySem.W.keepIn K (.ref f4) = true)
    (a5 : PySem.W.nsIn K mainGlobals "frozen" = some (some (.ref f5)))
    (l5 : K.lookup f5 = some ⟨oc5, od5, .func (PySem.W.fnOf "frozen" "frozen" (defArgs s_frozen) (defBody s_frozen) (defScope s_frozen) .none kV5 dc5 pm5 an5 cd5 ct5), sl5⟩)
    (c5 : PySem.W.codeIn K cd5 "frozen" = true)
    (k5 : PySem.W.keepIn K (.ref f5) = true)
    (a6 : PySem.W.nsIn K mainGlobals "is_number" = some (some (.ref f6)))
    (l6 : K.lookup f6 = some ⟨oc6, od6, .func (PySem.W.fnOf "is_number" "is_number" (defArgs s_is_number) (defBody s_is_number) (defScope s_is_number) .none kV6 dc6 pm6 an6 cd6 ct6), sl6⟩)
    (c6 : PySem.W.codeIn K cd6 "is_number" = true)
    (k6 : PySem.W.keepIn K (.ref f6) = true)
    (a7 : PySem.W.nsIn K mainGlobals "is_between" = some (some (.ref f7)))
    (l7 : K.lookup f7 = some ⟨oc7, od7, .func (PySem.W.fnOf "is_between" "is_between" (defArgs s_is_between) (defBody s_is_between) (defScope s_is_between) .none kV7 dc7 pm7 an7 cd7 ct7), sl7⟩)
    (c7 : PySem.W.codeIn K cd7 "is_between" = true)
    (k7 : PySem.W.keepIn K (.ref f7) = true)
    (a8 : PySem.W.nsIn K mainGlobals "is_successor_row" = some (some (.ref f8)))
    (l8 : K.lookup f8 = some ⟨oc8, od8, .func (PySem.W.fnOf "is_successor_row" "is_successor_row" (defArgs s_is_successor_row) (defBody s_is_successor_row) (defScope s_is_successor_row) .none kV8 dc8 pm8 an8 cd8 ct8), sl8⟩)
    (c8 : PySem.W.codeIn K cd8 "is_successor_row" = true)
    (k8 : PySem.W.keepIn K (.ref f8) = true)
    (a9 : PySem.W.findIn K (.ref C0) "top" = some (some (.ref p9)))
    (g9 : PySem.W.specialIn K (.ref p9) "__get__" = some (some (.builtin "property.__get__")))
    (t9 : PySem.W.takesIn K (.ref p9) = some true)
    (r9 : PySem.W.recIn K p9 "property" = some (.ref f9 :: rest9))
    (l9 : K.lookup f9 = some ⟨oc9, od9, .func (PySem.W.fnOf "top" "Game.top" (defArgs s_Game_top) (defBody s_Game_top) (defScope s_Game_top) .none kV9 dc9 pm9 an9 cd9 ct9), sl9⟩)
    (c9 : PySem.W.codeIn K cd9 "Game.top" = true)
    (k9 : PySem.W.keepIn K (.ref f9) = true)
    (mk0 : PySem.W.makesIn K C0 = true)
    (a10 : PySem.W.findIn K (.ref C0) "__init__" = some (some (.ref f10)))
    (i10 : PySem.W.isFn K (.ref f10) = true)
    (kc0 : PySem.W.keepIn K (.ref C0) = true)
    (l10 : K.lookup f10 = some ⟨oc10, od10, .func (PySem.W.fnOf "__init__" "Game.__init__" (defArgs s_Game_init) (defBody s_Game_init) (defScope s_Game_init) .none kV10 dc10 pm10 an10 cd10 ct10), sl10⟩)
    (c10 : PySem.W.codeIn K cd10 "Game.__init__" = true)
    (k10 : PySem.W.keepIn K (.ref f10) = true)
    (a11 : PySem.W.nsIn K mainGlobals "_law_cell" = some (some (.ref f11)))
    (l11 : K.lookup f11 = some ⟨oc11, od11, .func (PySem.W.fnOf "_law_cell" "_law_cell" (defArgs s_law_cell) (defBody s_law_cell) (defScope s_law_cell) .none kV11 dc11 pm11 an11 cd11 ct11), sl11⟩)
    (c11 : PySem.W.codeIn K cd11 "_law_cell" = true)
    (k11 : PySem.W.keepIn K (.ref f11) = true)
    (a12 : PySem.W.nsIn K mainGlobals "_law_digits" = some (some (.ref f12)))
    (l12 : K.lookup f12 = some ⟨oc12, od12, .func (PySem.W.fnOf "_law_digits" "_law_digits" (defArgs s_law_digits) (defBody s_law_digits) (defScope s_law_digits) .none kV12 dc12 pm12 an12 cd12 ct12), sl12⟩)
    (c12 : PySem.W.codeIn K cd12 "_law_digits" = true)
    (k12 : PySem.W.keepIn K (.ref f12) = true)
    (a13 : PySem.W.nsIn K mainGlobals "_law_graph" = some (some (.ref f13)))
    (l13 : K.lookup f13 = some ⟨oc13, od13, .func (PySem.W.fnOf "_law_graph" "_law_graph" (defArgs s_law_graph) (defBody s_law_graph) (defScope s_law_graph) .none kV13 dc13 pm13 an13 cd13 ct13), sl13⟩)
    (c13 : PySem.W.codeIn K cd13 "_law_graph" = true)
    (k13 : PySem.W.keepIn K (.ref f13) = true)
    (a14 : PySem.W.nsIn K mainGlobals "_law_sets" = some (some (.ref f14)))
    (l14 : K.lookup f14 = some ⟨oc14, od14, .func (PySem.W.fnOf "_law_sets" "_law_sets" (defArgs s_law_sets) (defBody s_law_sets) (defScope s_law_sets) .none kV14 dc14 pm14 an14 cd14 ct14), sl14⟩)
    (c14 : PySem.W.codeIn K cd14 "_law_sets" = true)
    (k14 : PySem.W.keepIn K (.ref f14) = true)
    (a15 : PySem.W.nsIn K mainGlobals "_law_set" = some (some (.ref f15)))
    (l15 : K.lookup f15 = some ⟨oc15, od15, .func (PySem.W.fnOf "_law_set" "_law_set" (defArgs s_law_set) (defBody s_law_set) (defScope s_law_set) .none kV15 dc15 pm15 an15 cd15 ct15), sl15⟩)
    (c15 : PySem.W.codeIn K cd15 "_law_set" = true)
    (k15 : PySem.W.keepIn K (.ref f15) = true)
    (a16 : PySem.W.nsIn K mainGlobals "_law_numbers" = some (some (.ref f16)))
    (l16 : K.lookup f16 = some ⟨oc16, od16, .func (PySem.W.fnOf "_law_numbers" "_law_numbers" (defArgs s_law_numbers) (defBody s_law_numbers) (defScope s_law_numbers) .none kV16 dc16 pm16 an16 cd16 ct16), sl16⟩)
    (c16 : PySem.W.codeIn K cd16 "_law_numbers" = true)
    (k16 : PySem.W.keepIn K (.ref f16) = true)
    (a17 : PySem.W.nsIn K mainGlobals "_law_trap" = some (some (.ref f17)))
    (l17 : K.lookup f17 = some ⟨oc17, od17, .func (PySem.W.fnOf "_law_trap" "_law_trap" (defArgs s_law_trap) (defBody s_law_trap) (defScope s_law_trap) .none kV17 dc17 pm17 an17 cd17 ct17), sl17⟩)
    (c17 : PySem.W.codeIn K cd17 "_law_trap" = true)
    (k17 : PySem.W.keepIn K (.ref f17) = true)
    (a18 : PySem.W.nsIn K mainGlobals "_law_right" = some (some (.ref f18)))
    (l18 : K.lookup f18 = some ⟨oc18, od18, .func (PySem.W.fnOf "_law_right" "_law_right" (defArgs s_law_right) (defBody s_law_right) (defScope s_law_right) .none kV18 dc18 pm18 an18 cd18 ct18), sl18⟩)
    (c18 : PySem.W.codeIn K cd18 "_law_right" = true)
    (k18 : PySem.W.keepIn K (.ref f18) = true)
    (a19 : PySem.W.nsIn K mainGlobals "law" = some (some (.ref f19)))
    (l19 : K.lookup f19 = some ⟨oc19, od19, .func (PySem.W.fnOf "law" "law" (defArgs s_law) (defBody s_law) (defScope s_law) .none kV19 dc19 pm19 an19 cd19 ct19), sl19⟩)
    (c19 : PySem.W.codeIn K cd19 "law" = true)
    (k19 : PySem.W.keepIn K (.ref f19) = true)
    (z_len : PySem.W.nsIn K mainGlobals "len" = some none)
    (z_int : PySem.W.nsIn K mainGlobals "int" = some none)
    (z_bool : PySem.W.nsIn K mainGlobals "bool" = some none)
    (z_str : PySem.W.nsIn K mainGlobals "str" = some none)
    (z_range : PySem.W.nsIn K mainGlobals "range" = some none)
    (z_isinstance : PySem.W.nsIn K mainGlobals "isinstance" = some none)
    (z_tuple : PySem.W.nsIn K mainGlobals "tuple" = some none)
    (z_list : PySem.W.nsIn K mainGlobals "list" = some none)
    (z_dict : PySem.W.nsIn K mainGlobals "dict" = some none)
    (z_set : PySem.W.nsIn K mainGlobals "set" = some none)
    (z_max : PySem.W.nsIn K mainGlobals "max" = some none)
    (z_min : PySem.W.nsIn K mainGlobals "min" = some none)
    (z_sum : PySem.W.nsIn K mainGlobals "sum" = some none)
    (z_any : PySem.W.nsIn K mainGlobals "any" = some none)
    (z_all : PySem.W.nsIn K mainGlobals "all" = some none)
    (z_sorted : PySem.W.nsIn K mainGlobals "sorted" = some none)
    (z_enumerate : PySem.W.nsIn K mainGlobals "enumerate" = some none)
    (z_zip : PySem.W.nsIn K mainGlobals "zip" = some none)
    (z_reversed : PySem.W.nsIn K mainGlobals "reversed" = some none)
    (z_repr : PySem.W.nsIn K mainGlobals "repr" = some none)
    : ∃ (cl : Nat → ClsT) (fd : FuncData), (∀ (s : Shared) (v : Value), BindsTo s fd ⟨[v], []⟩ [("script", v)]) ∧ ∀ base : Heap, K.In base → base.Ns mainGlobals mg → FnOk l.prog w K mg base CX0 8 fa fd ["script"] (spF K cl 1 F_law) := by
  have e := hfa.symm.trans (PySem.W.mg_of X G a19)
  cases e
  have B : Bt mg := ⟨PySem.W.mg_none_of X G z_len, PySem.W.mg_none_of X G z_int, PySem.W.mg_none_of X G z_bool, PySem.W.mg_none_of X G z_str, PySem.W.mg_none_of X G z_range, PySem.W.mg_none_of X G z_isinstance, PySem.W.mg_none_of X G z_tuple, PySem.W.mg_none_of X G z_list, PySem.W.mg_none_of X G z_dict, PySem.W.mg_none_of X G z_set, PySem.W.mg_none_of X G z_max, PySem.W.mg_none_of X G z_min, PySem.W.mg_none_of X G z_sum, PySem.W.mg_none_of X G z_any, PySem.W.mg_none_of X G z_all, PySem.W.mg_none_of X G z_sorted, PySem.W.mg_none_of X G z_enumerate, PySem.W.mg_none_of X G z_zip, PySem.W.mg_none_of X G z_reversed, PySem.W.mg_none_of X G z_repr⟩
  have kc_Game : ClsOk K (clsOf [⟨C0, ["owners", "priorities", "successors", "height"]⟩] 0) ["owners", "priorities", "successors", "height"] := ⟨⟨pg0, hd0, po0, sa0⟩, rfl, fun f hf => by
    simp only [List.mem_cons, List.not_mem_nil, or_false] at hf
    rcases hf with rfl | rfl | rfl | rfl
    · exact nf0_0
    · exact nf0_1
    · exact nf0_2
    · exact nf0_3, by decide +kernel, by decide⟩
  have kk : Ks K (clsOf [⟨C0, ["owners", "priorities", "successors", "height"]⟩]) := ⟨kc_Game⟩
  have F1 := fun_mk (st := s_flags_of) l1 c1 k1
  have F2 := fun_mk (st := s_Game_len) l2 c2 k2
  have F3 := fun_mk (st := s_flags_within) l3 c3 k3
  have F5 := fun_mk (st := s_frozen) l5 c5 k5
  have F6 := fun_mk (st := s_is_number) l6 c6 k6
  have F7 := fun_mk (st := s_is_between) l7 c7 k7
  have F8 := fun_mk (st := s_is_successor_row) l8 c8 k8
  have F9 := fun_mk (st := s_Game_top) l9 c9 k9
  have F10 := fun_mk (st := s_Game_init) l10 c10 k10
  have F11 := fun_mk (st := s_law_cell) l11 c11 k11
  have F12 := fun_mk (st := s_law_digits) l12 c12 k12
  have F13 := fun_mk (st := s_law_graph) l13 c13 k13
  have F14 := fun_mk (st := s_law_sets) l14 c14 k14
  have F15 := fun_mk (st := s_law_set) l15 c15 k15
  have F16 := fun_mk (st := s_law_numbers) l16 c16 k16
  have F17 := fun_mk (st := s_law_trap) l17 c17 k17
  have F18 := fun_mk (st := s_law_right) l18 c18 k18
  have F19 := fun_mk (st := s_law) l19 c19 k19
  have a_flags_of : At K mg "flags_of" s_flags_of := ⟨⟨_, _, PySem.W.mg_of X G a1, F1⟩⟩
  have a_Game_len : AtM K (clsOf [⟨C0, ["owners", "priorities", "successors", "height"]⟩] 0).addr "__len__" "Game.__len__" s_Game_len := ⟨⟨_, _, ⟨a2, i2, k2⟩, F2⟩⟩
  have a_flags_within : At K mg "flags_within" s_flags_within := ⟨⟨_, _, PySem.W.mg_of X G a3, F3⟩⟩
  have a_is_trap : AtK K mg "is_trap" s_is_trap "within" V.non := ⟨⟨_, _, PySem.W.mg_of X G a4, ⟨⟨_, _, _, _, _, _, _, _, _, _, rfl, l4, c4, .inl ⟨rfl, rfl⟩, .inr ⟨_, rfl, fun q hq => by
    rw [List.mem_singleton.mp hq]
    exact ⟨_, w4, rfl⟩⟩⟩, k4⟩⟩⟩
  have a_frozen : At K mg "frozen" s_frozen := ⟨⟨_, _, PySem.W.mg_of X G a5, F5⟩⟩
  have a_is_number : At K mg "is_number" s_is_number := ⟨⟨_, _, PySem.W.mg_of X G a6, F6⟩⟩
  have a_is_between : At K mg "is_between" s_is_between := ⟨⟨_, _, PySem.W.mg_of X G a7, F7⟩⟩
  have a_is_successor_row : At K mg "is_successor_row" s_is_successor_row := ⟨⟨_, _, PySem.W.mg_of X G a8, F8⟩⟩
  have a_Game_top : AtP K (clsOf [⟨C0, ["owners", "priorities", "successors", "height"]⟩] 0).addr "top" "Game.top" s_Game_top := ⟨⟨_, _, _, ⟨a9, g9, t9, ⟨_, r9⟩⟩, F9⟩⟩
  have a_Game_init : AtI K mg (clsOf [⟨C0, ["owners", "priorities", "successors", "height"]⟩] 0).addr "Game" "Game.__init__" s_Game_init := ⟨⟨_, _, PySem.W.mg_of X G aC0, ⟨mk0, a10, i10, kc0⟩, F10⟩⟩
  have a_law_cell : At K mg "_law_cell" s_law_cell := ⟨⟨_, _, PySem.W.mg_of X G a11, F11⟩⟩
  have a_law_digits : At K mg "_law_digits" s_law_digits := ⟨⟨_, _, PySem.W.mg_of X G a12, F12⟩⟩
  have a_law_graph : At K mg "_law_graph" s_law_graph := ⟨⟨_, _, PySem.W.mg_of X G a13, F13⟩⟩
  have a_law_sets : At K mg "_law_sets" s_law_sets := ⟨⟨_, _, PySem.W.mg_of X G a14, F14⟩⟩
  have a_law_set : At K mg "_law_set" s_law_set := ⟨⟨_, _, PySem.W.mg_of X G a15, F15⟩⟩
  have a_law_numbers : At K mg "_law_numbers" s_law_numbers := ⟨⟨_, _, PySem.W.mg_of X G a16, F16⟩⟩
  have a_law_trap : At K mg "_law_trap" s_law_trap := ⟨⟨_, _, PySem.W.mg_of X G a17, F17⟩⟩
  have a_law_right : At K mg "_law_right" s_law_right := ⟨⟨_, _, PySem.W.mg_of X G a18, F18⟩⟩
  refine ⟨clsOf [⟨C0, ["owners", "priorities", "successors", "height"]⟩], PySem.W.fnOf "law" "law" (defArgs s_law) (defBody s_law) (defScope s_law) .none kV19 dc19 pm19 an19 cd19 ct19, fun s v => .of_eq rfl, fun base _ _ => ?_⟩
  have c_flags_of : Def l.prog w K mg base (clsOf [⟨C0, ["owners", "priorities", "successors", "height"]⟩]) 1 "flags_of" 2 F_flags_of := d_flags_of B kk a_flags_of
  have c_Game_len : MtD l.prog w K mg base (clsOf [⟨C0, ["owners", "priorities", "successors", "height"]⟩]) 1 0 "__len__" 1 F_Game_len := d_Game_len B kk a_Game_len
  have c_flags_within : Def l.prog w K mg base (clsOf [⟨C0, ["owners", "priorities", "successors", "height"]⟩]) 3 "flags_within" 2 F_flags_within := d_flags_within B kk a_flags_within c_Game_len c_flags_of
  have c_is_trap : DefK l.prog w K mg base (clsOf [⟨C0, ["owners", "priorities", "successors", "height"]⟩]) 5 "is_trap" 3 "within" D.non F_is_trap := d_is_trap B kk a_is_trap c_flags_within c_flags_of c_Game_len
  have c_frozen : Def l.prog w K mg base (clsOf [⟨C0, ["owners", "priorities", "successors", "height"]⟩]) 4 "frozen" 1 (frozenF 4) := d_frozen B kk a_frozen
  have c_is_number : Def l.prog w K mg base (clsOf [⟨C0, ["owners", "priorities", "successors", "height"]⟩]) 1 "is_number" 1 is_numberF := d_is_number B kk a_is_number
  have c_is_between : Def l.prog w K mg base (clsOf [⟨C0, ["owners", "priorities", "successors", "height"]⟩]) 2 "is_between" 3 is_betweenF := d_is_between B kk a_is_between c_is_number
  have c_is_successor_row : Def l.prog w K mg base (clsOf [⟨C0, ["owners", "priorities", "successors", "height"]⟩]) 3 "is_successor_row" 2 is_successor_rowF := d_is_successor_row B kk a_is_successor_row c_is_between
  have c_Game_top : PrD l.prog w K mg base (clsOf [⟨C0, ["owners", "priorities", "successors", "height"]⟩]) 1 0 "top" Game_topF := d_Game_top B kk a_Game_top
  have c_Game_init : MkD l.prog w K mg base (clsOf [⟨C0, ["owners", "priorities", "successors", "height"]⟩]) 6 0 "Game" 3 Game_initF := d_Game_init B kk a_Game_init c_frozen c_is_between c_is_successor_row c_Game_top
  have c_law_cell : Def l.prog w K mg base (clsOf [⟨C0, ["owners", "priorities", "successors", "height"]⟩]) 1 "_law_cell" 2 cellF := d_law_cell B kk a_law_cell
  have c_law_digits : Def l.prog w K mg base (clsOf [⟨C0, ["owners", "priorities", "successors", "height"]⟩]) 1 "_law_digits" 2 digits2F := d_law_digits B kk a_law_digits
  have c_law_graph : Def l.prog w K mg base (clsOf [⟨C0, ["owners", "priorities", "successors", "height"]⟩]) 2 "_law_graph" 4 graphF := d_law_graph B kk a_law_graph c_law_digits c_law_cell
  have c_law_sets : Def l.prog w K mg base (clsOf [⟨C0, ["owners", "priorities", "successors", "height"]⟩]) 2 "_law_sets" 3 F_law_sets := d_law_sets B kk a_law_sets c_law_digits c_law_cell
  have c_law_set : Def l.prog w K mg base (clsOf [⟨C0, ["owners", "priorities", "successors", "height"]⟩]) 1 "_law_set" 2 F_law_set := d_law_set B kk a_law_set
  have c_law_numbers : Def l.prog w K mg base (clsOf [⟨C0, ["owners", "priorities", "successors", "height"]⟩]) 1 "_law_numbers" 4 F_law_numbers := d_law_numbers B kk a_law_numbers
  have c_law_trap : Def l.prog w K mg base (clsOf [⟨C0, ["owners", "priorities", "successors", "height"]⟩]) 1 "_law_trap" 4 F_law_trap := d_law_trap B kk a_law_trap
  have c_law_right : Def l.prog w K mg base (clsOf [⟨C0, ["owners", "priorities", "successors", "height"]⟩]) 6 "_law_right" 6 F_law_right := d_law_right B kk a_law_right c_law_set c_is_trap c_law_trap
  exact ok_law B kk c_law_digits c_law_cell c_law_graph c_law_sets c_Game_init c_law_numbers c_law_right F19
end
end Lw

namespace Lw
open PySem PySem.Spec PyProof.Rows L2 Fw
def bget (bs : List Bool) (v : Int) : Bool := bs.getD v.toNat false
def bD (bs : List Bool) : List D := bs.map .bl
def idx (bs : List Bool) : List Int := (rg bs.length).filter (bget bs)
theorem at_bl {bs : List Bool} {v : Int} (h : 0 ≤ v ∧ v < bs.length) : ixD (bD bs) v = some (.bl (bget bs v)) := by
  obtain ⟨n, rfl⟩ := Int.eq_ofNat_of_zero_le h.1
  have hn : n < bs.length := by omega
  unfold bD bget
  rw [ixD_nat, List.getElem?_map, List.getElem?_eq_getElem hn, Int.toNat_natCast, List.getD_eq_getElem?_getD, List.getElem?_eq_getElem hn]
  rfl
@[simp] theorem bD_len {bs : List Bool} : (bD bs).length = bs.length := List.length_map _
theorem idx_mem {bs : List Bool} {v : Int} : v ∈ idx bs ↔ (0 ≤ v ∧ v < bs.length) ∧ bget bs v = true := by
  unfold idx
  rw [List.mem_filter, mem_rg]
theorem idx_len {bs : List Bool} : (idx bs).length ≤ bs.length := by
  have := List.length_filter_le (bget bs) (rg bs.length)
  rw [rg_len] at this
  exact this
def setD (bs : List Bool) (shape : Int) : D := if shape % 2 = 0 then .lst ((idx bs).map .int) else .tup ((idx bs).map .int)
theorem setD_items (bs : List Bool) (shape : Int) : itemsOf (setD bs shape) = some ((idx bs).map .int) := by
  unfold setD
  split <;> rfl
theorem setD_cases (bs : List Bool) (shape : Int) : setD bs shape = .lst ((idx bs).map .int) ∨ setD bs shape = .tup ((idx bs).map .int) := by
  unfold setD
  split
  · exact .inl rfl
  · exact .inr rfl
theorem set_ok (bs : List Bool) (shape : Int) (hb : bs.length ≤ 1000) : F_law_set [.lst (bD bs), .int shape] = .ok (setD bs shape) := by
  have hr := rng1_n (n := bs.length) (by omega)
  have hc : compL (.nm 3) (tB1 (eBin oIx (eVar 0) (eVar 3))) (eVar 3) (rangeD 0 bs.length) [.sh (.lst (bD bs)), .sh (.int shape), .no, .no] = some ((idx bs).map .int) := by
    rw [rangeD_rg]
    refine comp_if_ints (fun v hv => ?_) (fun v hv _ => ?_)
    · have := at_bl (mem_rg.mp hv)
      simp -implicitDefEqProofs [this]
    · simp -implicitDefEqProofs
  have h2 : bs.length ≤ 16777216 := by omega
  have h3 : shape % 2 = 0 ∨ shape % 2 = 1 := by omega
  unfold setD
  rcases h3 with h3 | h3
  · simp -implicitDefEqProofs [F_law_set, runF, m_law_set, startR, hr, hc, h2, h3]
  · simp -implicitDefEqProofs [F_law_set, runF, m_law_set, startR, hr, hc, h2, h3]
theorem flags_ok {bs : List Bool} {d : D} (hd : itemsOf d = some ((idx bs).map .int)) (hb : bs.length ≤ 1000) : F_flags_of [.int bs.length, d] = .fr (.lst (bD bs)) := by
  obtain ⟨ρ', e, c, rfl⟩ := loop_inv (t := .nm 3) (F := (sSto 2 (eVar 3) (eC (.bl true)))) (ds := (idx bs).map .int) (ρ := [.sh (.int bs.length), .sh d, .own (.lst (List.replicate bs.length (.bl false))), .no])
    (fun i ρ => ∃ c, ρ = [.sh (.int bs.length), .sh d, .own (.lst ((List.range bs.length).map fun j : Nat => D.bl (decide ((j : Int) ∈ (idx bs).take i)))), c])
    ⟨.no, by
      simp
      refine List.ext_getElem (by simp) fun i h1 h2 => by simp⟩ (by
    rintro i x _ hi ⟨c, rfl⟩
    rw [List.getElem?_map] at hi
    obtain ⟨v, hv, rfl⟩ := map_some2 hi
    have hm := idx_mem.mp (List.mem_of_getElem? hv)
    refine ⟨_, rfl, _, .inl ?_, ⟨.sh (.int v), rfl⟩⟩
    have st := sto_pos (ρ := [.sh (.int bs.length), .sh d, .own (.lst ((List.range bs.length).map fun j : Nat => D.bl (decide ((j : Int) ∈ (idx bs).take i)))), .sh (.int v)]) (i := 2) (k := v) (d := .bl true) (ds := (List.range bs.length).map fun j : Nat => D.bl (decide ((j : Int) ∈ (idx bs).take i))) (by
      rw [List.length_map, List.length_range]
      exact hm.1)
    have e2 : ((List.range bs.length).map fun j : Nat => D.bl (decide ((j : Int) ∈ (idx bs).take i))).set v.toNat (.bl true) = (List.range bs.length).map fun j : Nat => D.bl (decide ((j : Int) ∈ (idx bs).take (i + 1))) := by
      obtain ⟨hlt, hve⟩ := List.getElem?_eq_some_iff.mp hv
      refine List.ext_getElem (by simp) fun j h1 h2 => ?_
      rw [List.getElem_set, List.getElem_map, List.getElem_map, List.getElem_range]
      rw [List.take_succ_eq_append_getElem hlt, hve]
      by_cases hj : v.toNat = j
      · rw [if_pos hj]
        have : (j : Int) = v := by omega
        simp [this]
      · rw [if_neg hj]
        have : ¬ ((j : Int) = v) := by omega
        simp [this]
    rw [e2] at st
    simp -implicitDefEqProofs [st])
  have h2 : (bs.length : Int) < 16777216 := by omega
  have h3 : -16777216 < (bs.length : Int) := by omega
  have h4 : bs.length ≤ 16777216 := by omega
  have e5 : ((List.range bs.length).map fun j : Nat => D.bl (decide ((j : Int) ∈ (idx bs).take ((idx bs).map D.int).length))) = bD bs := by
    rw [List.length_map, List.take_length]
    unfold bD
    refine List.ext_getElem (by simp) fun j h1 h2 => ?_
    rw [List.getElem_map, List.getElem_range, List.getElem_map]
    congr 1
    have hj : j < bs.length := by simpa using h1
    have eb : bget bs (j : Int) = bs[j] := by
      unfold bget
      rw [Int.toNat_natCast, List.getD_eq_getElem?_getD, List.getElem?_eq_getElem hj]
      rfl
    rw [← eb]
    cases hh : bget bs (j : Int) with
    | true => exact decide_eq_true (idx_mem.mpr ⟨by omega, hh⟩)
    | false =>
      refine decide_eq_false fun hm => ?_
      rw [(idx_mem.mp hm).2] at hh
      cases hh
  rw [e5] at e
  have hrep : oRepL (.lst [.bl false]) (.int bs.length) = some (List.replicate bs.length (.bl false)) := by
    unfold oRepL
    dsimp only
    rw [if_pos ⟨h2, h3, by simp; omega⟩, Int.toNat_natCast]
    congr 1
    simp
  simp -implicitDefEqProofs [F_flags_of, runF, m_flags_of, startR, hd, hrep, e]
/-- the game at hand -/
structure Gm (n : Nat) (os ps : List Int) (ss : List (List Int)) : Prop where
  g : GraphOk n 30 os ps ss
  few : n ≤ 1000
theorem len_ok {n : Nat} {os ps : List Int} {ss : List (List Int)} (hn : os.length = n) (h : n ≤ 1000) : F_Game_len [gameD os ps ss] = .ok (.int n) := by
  simp -implicitDefEqProofs [F_Game_len, runF, m_Game_len, startR, gameD, hn]
theorem within_ok {n : Nat} {os ps : List Int} {ss : List (List Int)} {ins : List Bool} {d : D} (hn : os.length = n) (h : n ≤ 1000) (hi : ins.length = n) (hd : (d = .non ∧ ins = List.replicate n true) ∨ (isNonD d = false ∧ itemsOf d = some ((idx ins).map .int))) :
    toD (F_flags_within [gameD os ps ss, d]) = some (.lst (bD ins)) := by
  have hl := len_ok (ps := ps) (ss := ss) hn h
  have k1 : (0 : Int) ≤ n ∧ (n : Int) < 9223372036854775808 := by omega
  have hG : gameD os ps ss = .ins 0 [.tup (os.map .int), .tup (ps.map .int), .tup (ss.map rowD), .int ((maxIx ps 0 + 1) / 2)] := rfl
  rw [hG] at hl ⊢
  rcases hd with ⟨rfl, rfl⟩ | ⟨h1, h2⟩
  · have hrep : oRepL (.lst [.bl true]) (.int n) = some (List.replicate n (.bl true)) := by
      unfold oRepL
      dsimp only
      rw [if_pos ⟨by omega, by omega, by simp; omega⟩, Int.toNat_natCast]
      congr 1
      simp
    have e : bD (List.replicate n true) = List.replicate n (.bl true) := by unfold bD; rw [List.map_replicate]
    simp -implicitDefEqProofs [F_flags_within, runF, m_flags_within, startR, hl, k1, hrep, e]
  · have hf := flags_ok h2 (by omega)
    rw [hi] at hf
    simp -implicitDefEqProofs [F_flags_within, runF, m_flags_within, startR, hl, k1, h1, hf]
/-- nothing wrong at v -/
def okB (os : List Int) (ss : List (List Int)) (who : Int) (cs ins : List Bool) (v : Int) : Bool :=
  let m := (ss.getD v.toNat []).filter (bget ins)
  let s := m.filter (bget cs)
  !(decide (os.getD v.toNat 0 = who) && decide (s.length < m.length)) && !(!decide (os.getD v.toNat 0 = who) && decide (s.length = 0))
def trapB (os : List Int) (ss : List (List Int)) (who : Int) (cs ins : List Bool) : Bool := (idx cs).all (okB os ss who cs ins)
theorem get_os {l : List Int} {v : Int} (h : 0 ≤ v ∧ v < (l.length : Nat)) : ixD (l.map .int) v = some (.int (l.getD v.toNat 0)) := by
  obtain ⟨n, rfl⟩ := Int.eq_ofNat_of_zero_le h.1
  have hn : n < l.length := by omega
  rw [at_int hn, Int.toNat_natCast, List.getD_eq_getElem?_getD, List.getElem?_eq_getElem hn]
  rfl
theorem get_ss {l : List (List Int)} {f : List Int → D} {v : Int} (h : 0 ≤ v ∧ v < (l.length : Nat)) : ixD (l.map f) v = some (f (l.getD v.toNat [])) ∧ l.getD v.toNat [] ∈ l := by
  obtain ⟨n, rfl⟩ := Int.eq_ofNat_of_zero_le h.1
  have hn : n < l.length := by omega
  rw [ixD_nat, List.getElem?_map, List.getElem?_eq_getElem hn, Int.toNat_natCast, List.getD_eq_getElem?_getD, List.getElem?_eq_getElem hn]
  exact ⟨rfl, List.getElem_mem hn⟩
theorem row_in {n : Nat} {r : List Int} (h : ∃ c : Nat, c = n ∧ Asc c (-1) r) : ∀ u ∈ r, 0 ≤ u ∧ u < (n : Int) := fun u hu => by
  obtain ⟨c, rfl, h⟩ := h
  have := asc_mem h u hu
  omega
theorem is_trap_ok {n : Nat} {os ps : List Int} {ss : List (List Int)} {cs ins : List Bool} {vd d : D} (who : Int) (G : GraphOk n 30 os ps ss) (h : n ≤ 1000) (hc : cs.length = n) (hi : ins.length = n) (hv : itemsOf vd = some ((idx cs).map .int))
    (hd : (d = .non ∧ ins = List.replicate n true) ∨ (isNonD d = false ∧ itemsOf d = some ((idx ins).map .int))) :
    F_is_trap [gameD os ps ss, .int who, vd, d] = .ok (.bl (trapB os ss who cs ins)) := by
  have hw := within_ok (ps := ps) (ss := ss) G.lo h hi hd
  have hl := len_ok (ps := ps) (ss := ss) G.lo h
  have hf := flags_ok hv (by omega)
  rw [hc] at hf
  have k1 : (0 : Int) ≤ n ∧ (n : Int) < 9223372036854775808 := by omega
  have step : ∀ (v : Int) (x6 x7 x8 : Cell), v ∈ idx cs → ∃ y7 y8, (okB os ss who cs ins v = true ∧ (sSeq (sSet 7 (fL (aComp (aItems (eBin oIx (e1o (oFld 0 2) (eVar 0)) (eVar 6))) (.nm 9) (tB1 (eBin oIx (eVar 4) (eVar 9))) (eVar 9))))
    (sSeq (sSet 8 (fL (aComp (aItems (eVar 7)) (.nm 9) (tB1 (eBin oIx (eVar 5) (eVar 9))) (eVar 9))))
    (sSeq (sIf (tAndF (tB1 (eBin oEq (eBin oIx (e1o (oFld 0 0) (eVar 0)) (eVar 6)) (eVar 1))) (tB1 (eBin oLt (eArgs oLen (aCons (eVar 8) aNil)) (eArgs oLen (aCons (eVar 7) aNil)))))
    (sRet (eC (.bl false)))
    sNext)
    (sIf (tAndF (tB1 (eBin oNe (eBin oIx (e1o (oFld 0 0) (eVar 0)) (eVar 6)) (eVar 1))) (tB1 (eBin oEq (eArgs oLen (aCons (eVar 8) aNil)) (eC (.int 0)))))
    (sRet (eC (.bl false)))
    sNext)))) [.sh (gameD os ps ss), .sh (.int who), .sh vd, .sh d, .sh (.lst (bD ins)), .sh (.lst (bD cs)), .sh (.int v), x7, x8, .no] = .nx [.sh (gameD os ps ss), .sh (.int who), .sh vd, .sh d, .sh (.lst (bD ins)), .sh (.lst (bD cs)), .sh (.int v), y7, y8, .no]) ∨
      (okB os ss who cs ins v = false ∧ (sSeq (sSet 7 (fL (aComp (aItems (eBin oIx (e1o (oFld 0 2) (eVar 0)) (eVar 6))) (.nm 9) (tB1 (eBin oIx (eVar 4) (eVar 9))) (eVar 9))))
    (sSeq (sSet 8 (fL (aComp (aItems (eVar 7)) (.nm 9) (tB1 (eBin oIx (eVar 5) (eVar 9))) (eVar 9))))
    (sSeq (sIf (tAndF (tB1 (eBin oEq (eBin oIx (e1o (oFld 0 0) (eVar 0)) (eVar 6)) (eVar 1))) (tB1 (eBin oLt (eArgs oLen (aCons (eVar 8) aNil)) (eArgs oLen (aCons (eVar 7) aNil)))))
    (sRet (eC (.bl false)))
    sNext)
    (sIf (tAndF (tB1 (eBin oNe (eBin oIx (e1o (oFld 0 0) (eVar 0)) (eVar 6)) (eVar 1))) (tB1 (eBin oEq (eArgs oLen (aCons (eVar 8) aNil)) (eC (.int 0)))))
    (sRet (eC (.bl false)))
    sNext)))) [.sh (gameD os ps ss), .sh (.int who), .sh vd, .sh d, .sh (.lst (bD ins)), .sh (.lst (bD cs)), .sh (.int v), x7, x8, .no] = .rt (.bl false)) := by
    intro v x6 x7 x8 hvm
    have hvr := (idx_mem.mp hvm).1
    have g1 := get_os (l := os) (v := v) (by rw [G.lo]; omega)
    obtain ⟨g2, g3⟩ := get_ss (l := ss) (f := rowD) (v := v) (by rw [G.ls]; omega)
    obtain ⟨r1, r2, r3⟩ := G.su _ g3
    dsimp only [okB]
    generalize os.getD v.toNat 0 = o at *
    generalize ss.getD v.toNat [] = r at *
    have c1 : compL (.nm 9) (tB1 (eBin oIx (eVar 4) (eVar 9))) (eVar 9) (r.map .int) [.sh (gameD os ps ss), .sh (.int who), .sh vd, .sh d, .sh (.lst (bD ins)), .sh (.lst (bD cs)), .sh (.int v), x7, x8, .no] = some ((r.filter (bget ins)).map .int) := by
      refine comp_if_ints (fun u hu => ?_) (fun u hu _ => ?_)
      · have hu2 := row_in r3 u hu
        have := at_bl (bs := ins) (v := u) (by omega)
        simp -implicitDefEqProofs [this]
      · simp -implicitDefEqProofs
    have c2 : compL (.nm 9) (tB1 (eBin oIx (eVar 5) (eVar 9))) (eVar 9) ((r.filter (bget ins)).map .int) [.sh (gameD os ps ss), .sh (.int who), .sh vd, .sh d, .sh (.lst (bD ins)), .sh (.lst (bD cs)), .sh (.int v), .sh (.lst ((r.filter (bget ins)).map .int)), x8, .no] = some (((r.filter (bget ins)).filter (bget cs)).map .int) := by
      refine comp_if_ints (fun u hu => ?_) (fun u hu _ => ?_)
      · have hu2 := row_in r3 u (List.mem_filter.mp hu).1
        have := at_bl (bs := cs) (v := u) (by omega)
        simp -implicitDefEqProofs [this]
      · simp -implicitDefEqProofs
    have l1 : (r.filter (bget ins)).length ≤ 1000 := by
      have := List.length_filter_le (bget ins) r
      omega
    generalize r.filter (bget ins) = m at *
    generalize m.filter (bget cs) = s at *
    have l2 : m.length ≤ 16777216 := by omega
    have l3 : r.length ≤ 16777216 := by omega
    refine ⟨.sh (.lst (m.map .int)), .sh (.lst (s.map .int)), ?_⟩
    unfold gameD rowD at *
    by_cases ho : o = who
    · by_cases hs : s.length < m.length
      · right
        simp -implicitDefEqProofs [g1, g2, c1, c2, l2, l3, ho, hs]
      · left
        simp -implicitDefEqProofs [g1, g2, c1, c2, l2, l3, ho, hs]
    · by_cases hs : s.length = 0
      · right
        simp -implicitDefEqProofs [g1, g2, c1, c2, l2, l3, ho, hs]
      · left
        simp -implicitDefEqProofs [g1, g2, c1, c2, l2, l3, ho, hs]
  let p : D → Bool := fun d => match d with | .int v => okB os ss who cs ins v | _ => false
  have hall : ((idx cs).map D.int).all p = trapB os ss who cs ins := by
    unfold trapB
    rw [List.all_map]
    rfl
  have lt := loop_test (t := .nm 6) (F := (sSeq (sSet 7 (fL (aComp (aItems (eBin oIx (e1o (oFld 0 2) (eVar 0)) (eVar 6))) (.nm 9) (tB1 (eBin oIx (eVar 4) (eVar 9))) (eVar 9))))
    (sSeq (sSet 8 (fL (aComp (aItems (eVar 7)) (.nm 9) (tB1 (eBin oIx (eVar 5) (eVar 9))) (eVar 9))))
    (sSeq (sIf (tAndF (tB1 (eBin oEq (eBin oIx (e1o (oFld 0 0) (eVar 0)) (eVar 6)) (eVar 1))) (tB1 (eBin oLt (eArgs oLen (aCons (eVar 8) aNil)) (eArgs oLen (aCons (eVar 7) aNil)))))
    (sRet (eC (.bl false)))
    sNext)
    (sIf (tAndF (tB1 (eBin oNe (eBin oIx (e1o (oFld 0 0) (eVar 0)) (eVar 6)) (eVar 1))) (tB1 (eBin oEq (eArgs oLen (aCons (eVar 8) aNil)) (eC (.int 0)))))
    (sRet (eC (.bl false)))
    sNext))))) (fun ρ => ∃ x6 x7 x8, ρ = [.sh (gameD os ps ss), .sh (.int who), .sh vd, .sh d, .sh (.lst (bD ins)), .sh (.lst (bD cs)), x6, x7, x8, .no]) p (z := .bl false) (ds := (idx cs).map .int) (ρ := [.sh (gameD os ps ss), .sh (.int who), .sh vd, .sh d, .sh (.lst (bD ins)), .sh (.lst (bD cs)), .no, .no, .no, .no]) ⟨.no, .no, .no, rfl⟩ (by
    rintro x hx _ ⟨x6, x7, x8, rfl⟩
    obtain ⟨v, hv2, rfl⟩ := List.mem_map.mp hx
    obtain ⟨y7, y8, h⟩ := step v x6 x7 x8 hv2
    refine ⟨_, rfl, ?_⟩
    rcases h with ⟨h1, h2⟩ | ⟨h1, h2⟩
    · exact .inl ⟨h1, _, h2, ⟨.sh (.int v), y7, y8, rfl⟩⟩
    · exact .inr ⟨h1, h2⟩)
  rw [hall] at lt
  rw [show gameD os ps ss = .ins 0 [.tup (os.map .int), .tup (ps.map .int), .tup (ss.map rowD), .int ((maxIx ps 0 + 1) / 2)] from rfl] at *
  rcases lt with ⟨h1, ρ', h2, x6, x7, x8, rfl⟩ | ⟨h1, h2⟩
  · simp -implicitDefEqProofs [F_is_trap, runF, m_is_trap, startR, hw, hl, k1, hf, hv, h1, h2]
  · simp -implicitDefEqProofs [F_is_trap, runF, m_is_trap, startR, hw, hl, k1, hf, hv, h1, h2]
/-- the law's own paper game -/
def paperD (os ps : List Int) (ss : List (List Int)) : D := .lst [.lst (os.map .int), .lst (ps.map .int), .lst (ss.map rowL)]
theorem filter_not_len {p : Int → Bool} : ∀ m : List Int, (m.filter fun u => !p u).length + (m.filter p).length = m.length
  | [] => rfl
  | x :: m => by
    have ih := filter_not_len (p := p) m
    cases h : p x <;> simp [h] <;> omega
theorem trap_ok {n : Nat} {os ps : List Int} {ss : List (List Int)} {cs ins : List Bool} (who : Int) (G : GraphOk n 30 os ps ss) (h : n ≤ 1000) (hc : cs.length = n) (hi : ins.length = n) :
    F_law_trap [paperD os ps ss, .int who, .lst (bD cs), .lst (bD ins)] = .ok (.bl (trapB os ss who cs ins)) := by
  have hr := rng1_n (n := n) (by omega)
  let q : Int → Bool := fun v => !(bget cs v) || okB os ss who cs ins v
  let p : D → Bool := fun d => match d with | .int v => q v | _ => false
  have hall : ((rg n).map D.int).all p = trapB os ss who cs ins := by
    unfold trapB idx
    rw [List.all_map, hc, List.all_filter]
    rfl
  have lt := loop_test (t := .nm 4) (F := (sIf (tB1 (eBin oIx (eVar 2) (eVar 4)))
    (sSeq (sSet 5 (fL (aComp (aItems (eBin oIx (eBin oIx (eVar 0) (eC (.int 2))) (eVar 4))) (.nm 7) (tB1 (eBin oIx (eVar 3) (eVar 7))) (eVar 7))))
    (sSeq (sSet 6 (fL (aComp (aItems (eVar 5)) (.nm 7) (tNotF (tB1 (eBin oIx (eVar 2) (eVar 7)))) (eVar 7))))
    (sSeq (sIf (tAndF (tB1 (eBin oEq (eBin oIx (eBin oIx (eVar 0) (eC (.int 0))) (eVar 4)) (eVar 1))) (tB1 (eBin oGt (eArgs oLen (aCons (eVar 6) aNil)) (eC (.int 0)))))
    (sRet (eC (.bl false)))
    sNext)
    (sIf (tAndF (tB1 (eBin oNe (eBin oIx (eBin oIx (eVar 0) (eC (.int 0))) (eVar 4)) (eVar 1))) (tB1 (eBin oEq (eArgs oLen (aCons (eVar 6) aNil)) (eArgs oLen (aCons (eVar 5) aNil)))))
    (sRet (eC (.bl false)))
    sNext))))
    sNext)) (fun ρ => ∃ x4 x5 x6, ρ = [.sh (paperD os ps ss), .sh (.int who), .sh (.lst (bD cs)), .sh (.lst (bD ins)), x4, x5, x6, .no]) p (z := .bl false) (ds := (rg n).map .int) (ρ := [.sh (paperD os ps ss), .sh (.int who), .sh (.lst (bD cs)), .sh (.lst (bD ins)), .no, .no, .no, .no]) ⟨.no, .no, .no, rfl⟩ (by
    rintro x hx _ ⟨x4, x5, x6, rfl⟩
    obtain ⟨v, hv2, rfl⟩ := List.mem_map.mp hx
    have hvr := mem_rg.mp hv2
    have hcv := at_bl (bs := cs) (v := v) (by omega)
    refine ⟨_, rfl, ?_⟩
    show (q v = true ∧ _) ∨ (q v = false ∧ _)
    cases hb : bget cs v with
    | false =>
      left
      refine ⟨by simp [q, hb], _, ?_, ⟨.sh (.int v), x5, x6, rfl⟩⟩
      simp -implicitDefEqProofs [hcv, hb]
    | true =>
      have hq : q v = okB os ss who cs ins v := by simp [q, hb]
      rw [hq]
      have g1 := get_os (l := os) (v := v) (by rw [G.lo]; omega)
      obtain ⟨g2, g3⟩ := get_ss (l := ss) (f := rowL) (v := v) (by rw [G.ls]; omega)
      obtain ⟨r1, r2, r3⟩ := G.su _ g3
      dsimp only [okB]
      generalize os.getD v.toNat 0 = o at *
      generalize ss.getD v.toNat [] = r at *
      have c1 : compL (.nm 7) (tB1 (eBin oIx (eVar 3) (eVar 7))) (eVar 7) (r.map .int) [.sh (paperD os ps ss), .sh (.int who), .sh (.lst (bD cs)), .sh (.lst (bD ins)), .sh (.int v), x5, x6, .no] = some ((r.filter (bget ins)).map .int) := by
        refine comp_if_ints (fun u hu => ?_) (fun u hu _ => ?_)
        · have hu2 := row_in r3 u hu
          have := at_bl (bs := ins) (v := u) (by omega)
          simp -implicitDefEqProofs [this]
        · simp -implicitDefEqProofs
      have c2 : compL (.nm 7) (tNotF (tB1 (eBin oIx (eVar 2) (eVar 7)))) (eVar 7) ((r.filter (bget ins)).map .int) [.sh (paperD os ps ss), .sh (.int who), .sh (.lst (bD cs)), .sh (.lst (bD ins)), .sh (.int v), .sh (.lst ((r.filter (bget ins)).map .int)), x6, .no] = some (((r.filter (bget ins)).filter fun u => !bget cs u).map .int) := by
        refine comp_if_ints (fun u hu => ?_) (fun u hu _ => ?_)
        · have hu2 := row_in r3 u (List.mem_filter.mp hu).1
          have := at_bl (bs := cs) (v := u) (by omega)
          simp -implicitDefEqProofs [this]
        · simp -implicitDefEqProofs
      have l1 : (r.filter (bget ins)).length ≤ 1000 := by
        have := List.length_filter_le (bget ins) r
        omega
      have l4 := filter_not_len (p := bget cs) (r.filter (bget ins))
      generalize r.filter (bget ins) = m at *
      generalize (m.filter fun u => !bget cs u) = a at *
      generalize m.filter (bget cs) = s at *
      have l2 : m.length ≤ 16777216 := by omega
      have l3 : r.length ≤ 16777216 := by omega
      unfold paperD rowL at *
      by_cases ho : o = who
      · by_cases hs : s.length < m.length
        · right
          have ha : 0 < a.length := by omega
          simp -implicitDefEqProofs [g1, g2, c1, c2, l2, l3, ho, hs, hcv, hb, ha]
        · left
          have ha : a.length = 0 := by omega
          refine ⟨by simp [ho, hs], _, ?_, ⟨.sh (.int v), .sh (.lst (m.map .int)), .sh (.lst (a.map .int)), rfl⟩⟩
          simp -implicitDefEqProofs [g1, g2, c1, c2, l2, l3, ho, hs, hcv, hb, ha]
      · by_cases hs : s.length = 0
        · right
          have ha : a.length = m.length := by omega
          simp -implicitDefEqProofs [g1, g2, c1, c2, l2, l3, ho, hs, hcv, hb, ha]
        · left
          have ha : ¬ a.length = m.length := by omega
          have ha2 : ¬ ((a.length : Int) = (m.length : Int)) := by omega
          refine ⟨by simp [ho, hs], _, ?_, ⟨.sh (.int v), .sh (.lst (m.map .int)), .sh (.lst (a.map .int)), rfl⟩⟩
          simp -implicitDefEqProofs [g1, g2, c1, c2, l2, l3, ho, hs, hcv, hb, ha, ha2])
  rw [hall, ← rangeD_rg] at lt
  rcases lt with ⟨h1, ρ', h2, x4, x5, x6, rfl⟩ | ⟨h1, h2⟩
  · simp -implicitDefEqProofs [F_law_trap, runF, m_law_trap, startR, hr, hc, h1, h2]
  · simp -implicitDefEqProofs [F_law_trap, runF, m_law_trap, startR, hr, hc, h1, h2]
theorem idx_all (n : Nat) : idx (List.replicate n true) = rg n := by
  unfold idx
  rw [List.length_replicate]
  refine List.filter_eq_self.mpr fun v hv => ?_
  have := mem_rg.mp hv
  unfold bget
  have hlt : v.toNat < n := by omega
  rw [List.getD_eq_getElem?_getD, List.getElem?_replicate, if_pos hlt]
  rfl
theorem trapB_flip {n : Nat} {os : List Int} {ss : List (List Int)} {cs ins : List Bool} (who : Int) (ho : os.length = n) (hc : cs.length = n) : trapB (os.map fun o => 1 - o) ss (1 - who) cs ins = trapB os ss who cs ins := by
  unfold trapB
  have : ∀ v ∈ idx cs, okB (os.map fun o => 1 - o) ss (1 - who) cs ins v = okB os ss who cs ins v := fun v hv => by
    have hr := (idx_mem.mp hv).1
    have hlt : v.toNat < os.length := by omega
    have e1 : (os.map fun o => 1 - o).getD v.toNat 0 = 1 - os[v.toNat] := by
      rw [List.getD_eq_getElem?_getD, List.getElem?_map, List.getElem?_eq_getElem hlt]
      rfl
    have e2 : os.getD v.toNat 0 = os[v.toNat] := by
      rw [List.getD_eq_getElem?_getD, List.getElem?_eq_getElem hlt]
      rfl
    have e3 : decide (1 - os[v.toNat] = 1 - who) = decide (os[v.toNat] = who) := decide_eq_decide.mpr (by omega)
    dsimp only [okB]
    rw [e1, e2, e3]
  rw [Bool.eq_iff_iff, List.all_eq_true, List.all_eq_true]
  constructor
  · intro h v hv
    rw [← this v hv]
    exact h v hv
  · intro h v hv
    rw [this v hv]
    exact h v hv
theorem setD_non (bs : List Bool) (s : Int) : isNonD (setD bs s) = false := by
  unfold setD
  split <;> rfl
theorem simp_setD {k : Nat} (bs : List Bool) (s : Int) : Simp (k + 1) (setD bs s) := by
  unfold setD
  split
  · exact simp_lst
  · exact simp_tup
def gamesD (os ps : List Int) (ss : List (List Int)) : D := .lst [gameD os ps ss, gameD (os.map fun o => 1 - o) ps ss]
theorem right_ok {n : Nat} {os ps : List Int} {ss : List (List Int)} {cs ins : List Bool} (who shape : Int) (G : GraphOk n 30 os ps ss) (h : n ≤ 1000) (hc : cs.length = n) (hi : ins.length = n) :
    F_law_right [gamesD os ps ss, paperD os ps ss, .int who, .lst (bD cs), .lst (bD ins), .int shape] = .ok (.bl true) := by
  have G' : GraphOk n 30 (os.map fun o => 1 - o) ps ss := ⟨by rw [List.length_map, G.lo], G.lp, G.ls, fun o ho => by
    obtain ⟨x, hx, rfl⟩ := List.mem_map.mp ho
    have := G.ow x hx
    omega, G.pr, G.su⟩
  have s1 := set_ok cs shape (by omega)
  have s2 := set_ok ins (shape / 2) (by omega)
  have t1 := is_trap_ok (d := setD ins (shape / 2)) who G h hc hi (setD_items cs shape) (.inr ⟨setD_non _ _, setD_items _ _⟩)
  have t2 := is_trap_ok (d := setD ins (shape / 2)) (1 - who) G' h hc hi (setD_items cs shape) (.inr ⟨setD_non _ _, setD_items _ _⟩)
  rw [trapB_flip who G.lo hc] at t2
  have t3 := is_trap_ok (d := .non) (ins := List.replicate n true) who G h hc (by simp) (setD_items cs shape) (.inl ⟨rfl, rfl⟩)
  have t4 := is_trap_ok (d := .lst ((rg n).map .int)) (ins := List.replicate n true) (1 - who) G' h hc (by simp) (setD_items cs shape) (.inr ⟨rfl, by rw [idx_all]; rfl⟩)
  rw [trapB_flip who G.lo hc] at t4
  have d1 := trap_ok who G h hc hi
  have d2 := trap_ok (ins := List.replicate n true) who G h hc (by simp)
  have hlr : lr2 (.int 0) (.int n) = some ((rg n).map .int) := by
    rw [lr2_n (by omega), ← rangeD_rg]
    congr 2
  generalize trapB os ss who cs ins = T1 at *
  generalize trapB os ss who cs (List.replicate n true) = T2 at *
  have hrep : bD (List.replicate n true) = List.replicate n (.bl true) := by unfold bD; rw [List.map_replicate]
  rw [hrep] at d2
  have hcm : ∀ (x0 x1 x2 x3 x4 x5 x6 x7 x8 x9 x10 x12 : Cell), compL (.nm 11) tYesF (eC (.bl true)) (bD ins) [x0, x1, x2, x3, x4, x5, x6, x7, x8, x9, x10, .no, x12] = some (List.replicate n (.bl true)) := fun x0 x1 x2 x3 x4 x5 x6 x7 x8 x9 x10 x12 => by
    rw [comp_same (d := .bl true) fun x hx => rfl, bD_len, hi]
  have heq : oEq (.lst [setD cs shape, setD ins (shape / 2)]) (.lst [setD cs shape, setD ins (shape / 2)]) = some (.bl true) := oEq_self (by
    simp only [Simp]
    intro x hx
    simp only [List.mem_cons, List.not_mem_nil, or_false] at hx
    rcases hx with rfl | rfl
    · exact simp_setD _ _
    · exact simp_setD _ _) (.inr ⟨_, rfl⟩)
  have l1 : n ≤ 16777216 := by omega
  unfold gamesD
  simp -implicitDefEqProofs [F_law_right, runF, m_law_right, startR, s1, s2, t1, t2, t3, t4, d1, d2, hi, hlr, compL, hcm, heq, l1]
def IsF (d : D) : Prop := d = .non ∨ ∃ i, d = .int i
theorem at_f {fs : List D} {v : Int} (hf : ∀ d ∈ fs, IsF d) (h : 0 ≤ v ∧ v < (fs.length : Nat)) : ∃ d, ixD fs v = some d ∧ IsF d := by
  obtain ⟨n, rfl⟩ := Int.eq_ofNat_of_zero_le h.1
  have hn : n < fs.length := by omega
  exact ⟨fs[n], by rw [ixD_nat, List.getElem?_eq_getElem hn], hf _ (List.getElem_mem hn)⟩
theorem near_step {n : Nat} {os ps : List Int} {ss : List (List Int)} {gs ins : List Bool} {fs : List D} {fr : List Int} (who : Int) (G : GraphOk n 30 os ps ss) (h : n ≤ 1000) (hi : ins.length = n) (hfl : fs.length = n) (hf : ∀ d ∈ fs, IsF d) (hfr : fr.length ≤ 1000) (turn v : Int) (hv : 0 ≤ v ∧ v < n) (x8 x9 : Cell) :
    ∃ (fr' : List Int) (y8 y9 : Cell), (fr' = fr ∨ fr' = fr ++ [v]) ∧ (sIf (tAndF (tB1 (eBin oIx (eVar 3) (eVar 7))) (tB1 (eBin oIsN (eBin oIx (eOwn 4) (eVar 7)) (eC .non))))
    (sSeq (sSet 8 (fL (aComp (aItems (eBin oIx (eBin oIx (eVar 0) (eC (.int 2))) (eVar 7))) (.nm 11) (tB1 (eBin oIx (eVar 3) (eVar 11))) (eVar 11))))
    (sSeq (sSet 9 (fL (aComp (aItems (eVar 8)) (.nm 11) (tB1 (eBin oNotN (eBin oIx (eOwn 4) (eVar 11)) (eC .non))) (eVar 11))))
    (sIf (tAndF (tB1 (eBin oGt (eArgs oLen (aCons (eVar 9) aNil)) (eC (.int 0)))) (tOrF (tB1 (eBin oEq (eBin oIx (eBin oIx (eVar 0) (eC (.int 0))) (eVar 7)) (eVar 1))) (tB1 (eBin oEq (eArgs oLen (aCons (eVar 9) aNil)) (eArgs oLen (aCons (eVar 8) aNil))))))
    (sApp 6 (eVar 7))
    sNext)))
    sNext) [.sh (paperD os ps ss), .sh (.int who), .sh (.lst (bD gs)), .sh (.lst (bD ins)), .own (.lst fs), .sh (.int turn), .own (.lst (fr.map .int)), .sh (.int v), x8, x9, .no, .no] =
      .nx [.sh (paperD os ps ss), .sh (.int who), .sh (.lst (bD gs)), .sh (.lst (bD ins)), .own (.lst fs), .sh (.int turn), .own (.lst (fr'.map .int)), .sh (.int v), y8, y9, .no, .no] := by
  have hiv := at_bl (bs := ins) (v := v) (by omega)
  obtain ⟨dv, hdv, hdf⟩ := at_f hf (v := v) (by omega)
  by_cases hb : bget ins v = true ∧ isNonD dv = true
  · have g1 := get_os (l := os) (v := v) (by rw [G.lo]; omega)
    obtain ⟨g2, g3⟩ := get_ss (l := ss) (f := rowL) (v := v) (by rw [G.ls]; omega)
    obtain ⟨r1, r2, r3⟩ := G.su _ g3
    generalize os.getD v.toNat 0 = o at *
    generalize ss.getD v.toNat [] = r at *
    have c1 : compL (.nm 11) (tB1 (eBin oIx (eVar 3) (eVar 11))) (eVar 11) (r.map .int) [.sh (paperD os ps ss), .sh (.int who), .sh (.lst (bD gs)), .sh (.lst (bD ins)), .own (.lst fs), .sh (.int turn), .own (.lst (fr.map .int)), .sh (.int v), x8, x9, .no, .no] = some ((r.filter (bget ins)).map .int) := by
      refine comp_if_ints (fun u hu => ?_) (fun u hu _ => ?_)
      · have hu2 := row_in r3 u hu
        have := at_bl (bs := ins) (v := u) (by omega)
        simp -implicitDefEqProofs [this]
      · simp -implicitDefEqProofs
    let pf : Int → Bool := fun u => !isNonD ((ixD fs u).getD .non)
    have c2 : compL (.nm 11) (tB1 (eBin oNotN (eBin oIx (eOwn 4) (eVar 11)) (eC .non))) (eVar 11) ((r.filter (bget ins)).map .int) [.sh (paperD os ps ss), .sh (.int who), .sh (.lst (bD gs)), .sh (.lst (bD ins)), .own (.lst fs), .sh (.int turn), .own (.lst (fr.map .int)), .sh (.int v), .sh (.lst ((r.filter (bget ins)).map .int)), x9, .no, .no] = some (((r.filter (bget ins)).filter pf).map .int) := by
      refine comp_if_ints (fun u hu => ?_) (fun u hu _ => ?_)
      · have hu2 := row_in r3 u (List.mem_filter.mp hu).1
        obtain ⟨du, hdu, _⟩ := at_f hf (v := u) (by omega)
        simp -implicitDefEqProofs [hdu, pf]
      · simp -implicitDefEqProofs
    have l1 : (r.filter (bget ins)).length ≤ 1000 := by
      have := List.length_filter_le (bget ins) r
      omega
    clear_value pf
    generalize r.filter (bget ins) = m at *
    generalize m.filter pf = s at *
    have l2 : m.length ≤ 16777216 := by omega
    have l3 : r.length ≤ 16777216 := by omega
    have l4 : fr.length < 16777216 := by omega
    unfold paperD rowL at *
    by_cases k1 : 0 < s.length
    · by_cases k2 : o = who ∨ s.length = m.length
      · refine ⟨fr ++ [v], .sh (.lst (m.map .int)), .sh (.lst (s.map .int)), .inr rfl, ?_⟩
        by_cases k3 : o = who
        · simp -implicitDefEqProofs [hiv, hdv, hb.1, hb.2, g1, g2, c1, c2, l2, l3, l4, k1, k3]
        · have k4 : s.length = m.length := k2.resolve_left k3
          have k1' : 0 < m.length := by omega
          simp -implicitDefEqProofs [hiv, hdv, hb.1, hb.2, g1, g2, c1, c2, l2, l3, l4, k1, k1', k3, k4]
      · refine ⟨fr, .sh (.lst (m.map .int)), .sh (.lst (s.map .int)), .inl rfl, ?_⟩
        have k3 : ¬ o = who := fun e => k2 (.inl e)
        have k4 : ¬ s.length = m.length := fun e => k2 (.inr e)
        have k5 : ¬ ((s.length : Int) = (m.length : Int)) := by omega
        simp -implicitDefEqProofs [hiv, hdv, hb.1, hb.2, g1, g2, c1, c2, l2, l3, l4, k1, k3, k4, k5]
    · refine ⟨fr, .sh (.lst (m.map .int)), .sh (.lst (s.map .int)), .inl rfl, ?_⟩
      simp -implicitDefEqProofs [hiv, hdv, hb.1, hb.2, g1, g2, c1, c2, l2, l3, l4, k1]
  · refine ⟨fr, x8, x9, .inl rfl, ?_⟩
    cases h1 : bget ins v with
    | false => simp -implicitDefEqProofs [hiv, hdv, h1]
    | true =>
      have h2 : isNonD dv = false := by
        cases h3 : isNonD dv with
        | false => rfl
        | true => exact (hb ⟨h1, h3⟩).elim
      simp -implicitDefEqProofs [hiv, hdv, h1, h2]
theorem turn_step {n : Nat} {os ps : List Int} {ss : List (List Int)} {gs ins : List Bool} {fs : List D} (who : Int) (G : GraphOk n 30 os ps ss) (h : n ≤ 1000) (hi : ins.length = n) (hfl : fs.length = n) (hf : ∀ d ∈ fs, IsF d) (turn : Int) (x6 x7 x8 x9 : Cell) :
    ∃ (fs' : List D) (y6 y7 y8 y9 : Cell), fs'.length = n ∧ (∀ d ∈ fs', IsF d) ∧ ∃ o, o = [.sh (paperD os ps ss), .sh (.int who), .sh (.lst (bD gs)), .sh (.lst (bD ins)), .own (.lst fs'), .sh (.int turn), y6, y7, y8, y9, .no, .no] ∧
    ((sSeq (sSetF 6 (aLst aNil))
    (sSeq (sFor (aRng1 (aCons (eArgs oLen (aCons (eVar 3) aNil)) aNil)) (.nm 7)
    (sIf (tAndF (tB1 (eBin oIx (eVar 3) (eVar 7))) (tB1 (eBin oIsN (eBin oIx (eOwn 4) (eVar 7)) (eC .non))))
    (sSeq (sSet 8 (fL (aComp (aItems (eBin oIx (eBin oIx (eVar 0) (eC (.int 2))) (eVar 7))) (.nm 11) (tB1 (eBin oIx (eVar 3) (eVar 11))) (eVar 11))))
    (sSeq (sSet 9 (fL (aComp (aItems (eVar 8)) (.nm 11) (tB1 (eBin oNotN (eBin oIx (eOwn 4) (eVar 11)) (eC .non))) (eVar 11))))
    (sIf (tAndF (tB1 (eBin oGt (eArgs oLen (aCons (eVar 9) aNil)) (eC (.int 0)))) (tOrF (tB1 (eBin oEq (eBin oIx (eBin oIx (eVar 0) (eC (.int 0))) (eVar 7)) (eVar 1))) (tB1 (eBin oEq (eArgs oLen (aCons (eVar 9) aNil)) (eArgs oLen (aCons (eVar 8) aNil))))))
    (sApp 6 (eVar 7))
    sNext)))
    sNext))
    (sSeq (sFrz 6 (sFor (aItems (eVar 6)) (.nm 7)
    (sSto 4 (eVar 7) (eVar 5))))
    (sIf (tB1 (eBin oEq (eArgs oLen (aCons (eOwn 6) aNil)) (eC (.int 0))))
    sBreak
    sNext)))) [.sh (paperD os ps ss), .sh (.int who), .sh (.lst (bD gs)), .sh (.lst (bD ins)), .own (.lst fs), .sh (.int turn), x6, x7, x8, x9, .no, .no] = .nx o ∨
    (sSeq (sSetF 6 (aLst aNil))
    (sSeq (sFor (aRng1 (aCons (eArgs oLen (aCons (eVar 3) aNil)) aNil)) (.nm 7)
    (sIf (tAndF (tB1 (eBin oIx (eVar 3) (eVar 7))) (tB1 (eBin oIsN (eBin oIx (eOwn 4) (eVar 7)) (eC .non))))
    (sSeq (sSet 8 (fL (aComp (aItems (eBin oIx (eBin oIx (eVar 0) (eC (.int 2))) (eVar 7))) (.nm 11) (tB1 (eBin oIx (eVar 3) (eVar 11))) (eVar 11))))
    (sSeq (sSet 9 (fL (aComp (aItems (eVar 8)) (.nm 11) (tB1 (eBin oNotN (eBin oIx (eOwn 4) (eVar 11)) (eC .non))) (eVar 11))))
    (sIf (tAndF (tB1 (eBin oGt (eArgs oLen (aCons (eVar 9) aNil)) (eC (.int 0)))) (tOrF (tB1 (eBin oEq (eBin oIx (eBin oIx (eVar 0) (eC (.int 0))) (eVar 7)) (eVar 1))) (tB1 (eBin oEq (eArgs oLen (aCons (eVar 9) aNil)) (eArgs oLen (aCons (eVar 8) aNil))))))
    (sApp 6 (eVar 7))
    sNext)))
    sNext))
    (sSeq (sFrz 6 (sFor (aItems (eVar 6)) (.nm 7)
    (sSto 4 (eVar 7) (eVar 5))))
    (sIf (tB1 (eBin oEq (eArgs oLen (aCons (eOwn 6) aNil)) (eC (.int 0))))
    sBreak
    sNext)))) [.sh (paperD os ps ss), .sh (.int who), .sh (.lst (bD gs)), .sh (.lst (bD ins)), .own (.lst fs), .sh (.int turn), x6, x7, x8, x9, .no, .no] = .bk o) := by
  have hr := rng1_n (n := n) (by omega)
  obtain ⟨ρ1, e1, fr, y7, y8, y9, rfl, h1, h2⟩ := loop_inv (t := .nm 7) (F := (sIf (tAndF (tB1 (eBin oIx (eVar 3) (eVar 7))) (tB1 (eBin oIsN (eBin oIx (eOwn 4) (eVar 7)) (eC .non))))
    (sSeq (sSet 8 (fL (aComp (aItems (eBin oIx (eBin oIx (eVar 0) (eC (.int 2))) (eVar 7))) (.nm 11) (tB1 (eBin oIx (eVar 3) (eVar 11))) (eVar 11))))
    (sSeq (sSet 9 (fL (aComp (aItems (eVar 8)) (.nm 11) (tB1 (eBin oNotN (eBin oIx (eOwn 4) (eVar 11)) (eC .non))) (eVar 11))))
    (sIf (tAndF (tB1 (eBin oGt (eArgs oLen (aCons (eVar 9) aNil)) (eC (.int 0)))) (tOrF (tB1 (eBin oEq (eBin oIx (eBin oIx (eVar 0) (eC (.int 0))) (eVar 7)) (eVar 1))) (tB1 (eBin oEq (eArgs oLen (aCons (eVar 9) aNil)) (eArgs oLen (aCons (eVar 8) aNil))))))
    (sApp 6 (eVar 7))
    sNext)))
    sNext)) (ds := rangeD 0 n) (ρ := [.sh (paperD os ps ss), .sh (.int who), .sh (.lst (bD gs)), .sh (.lst (bD ins)), .own (.lst fs), .sh (.int turn), .own (.lst []), x7, x8, x9, .no, .no])
    (fun i ρ => ∃ (fr : List Int) (y7 y8 y9 : Cell), ρ = [.sh (paperD os ps ss), .sh (.int who), .sh (.lst (bD gs)), .sh (.lst (bD ins)), .own (.lst fs), .sh (.int turn), .own (.lst (fr.map .int)), y7, y8, y9, .no, .no] ∧ fr.length ≤ i ∧ ∀ v ∈ fr, 0 ≤ v ∧ v < (n : Int))
    ⟨[], x7, x8, x9, rfl, Nat.le_refl _, fun v hv => nomatch hv⟩ (by
    rintro i d _ hi0 ⟨fr, y7, y8, y9, rfl, h1, h2⟩
    obtain ⟨hi2, rfl⟩ := rangeD_get hi0
    obtain ⟨fr', z8, z9, hfr, e⟩ := near_step (gs := gs) who G h hi hfl hf (fr := fr) (by omega) turn (0 + (i : Int)) (by omega) y8 y9
    refine ⟨_, rfl, _, .inl e, fr', _, z8, z9, rfl, ?_⟩
    rcases hfr with rfl | rfl
    · exact ⟨by omega, h2⟩
    · refine ⟨by rw [List.length_append]; simp; omega, fun v hv => ?_⟩
      rcases List.mem_append.mp hv with hv | hv
      · exact h2 v hv
      · rw [List.mem_singleton.mp hv]
        omega)
  obtain ⟨ρ2, e2, fs', z7, rfl, h3, h4⟩ := loop_inv (t := .nm 7) (F := (sSto 4 (eVar 7) (eVar 5))) (ds := fr.map .int) (ρ := [.sh (paperD os ps ss), .sh (.int who), .sh (.lst (bD gs)), .sh (.lst (bD ins)), .own (.lst fs), .sh (.int turn), .sh (.lst (fr.map .int)), y7, y8, y9, .no, .no])
    (fun i ρ => ∃ (fs' : List D) (z7 : Cell), ρ = [.sh (paperD os ps ss), .sh (.int who), .sh (.lst (bD gs)), .sh (.lst (bD ins)), .own (.lst fs'), .sh (.int turn), .sh (.lst (fr.map .int)), z7, y8, y9, .no, .no] ∧ fs'.length = n ∧ ∀ d ∈ fs', IsF d)
    ⟨fs, y7, rfl, hfl, hf⟩ (by
    rintro i d _ hi0 ⟨fs', z7, rfl, h3, h4⟩
    rw [List.getElem?_map] at hi0
    obtain ⟨v, hv, rfl⟩ := map_some2 hi0
    have hvr := h2 v (List.mem_of_getElem? hv)
    have st := sto_pos (ρ := [.sh (paperD os ps ss), .sh (.int who), .sh (.lst (bD gs)), .sh (.lst (bD ins)), .own (.lst fs'), .sh (.int turn), .sh (.lst (fr.map .int)), .sh (.int v), y8, y9, .no, .no]) (i := 4) (k := v) (d := .int turn) (ds := fs') (by omega)
    refine ⟨_, rfl, _, .inl ?_, fs'.set v.toNat (.int turn), .sh (.int v), rfl, by rw [List.length_set, h3], fun d hd => ?_⟩
    · simp -implicitDefEqProofs [st]
    · rcases List.mem_or_eq_of_mem_set hd with hd | hd
      · exact h4 d hd
      · exact .inr ⟨turn, hd⟩)
  refine ⟨fs', .sh (.lst (fr.map .int)), z7, y8, y9, h3, h4, _, rfl, ?_⟩
  by_cases hz : fr = []
  · right
    subst hz
    simp only [List.map_nil] at e1 e2
    simp -implicitDefEqProofs [hi, hr, e1, e2]
  · left
    simp -implicitDefEqProofs [hi, hr, e1, e2, hz]
theorem numbers_ok {n : Nat} {os ps : List Int} {ss : List (List Int)} {gs ins : List Bool} (who : Int) (G : GraphOk n 30 os ps ss) (h : n ≤ 1000) (hg : gs.length = n) (hi : ins.length = n) :
    ∃ fs : List D, F_law_numbers [paperD os ps ss, .int who, .lst (bD gs), .lst (bD ins)] = .fr (.lst fs) ∧ fs.length = n ∧ ∀ d ∈ fs, IsF d := by
  let fs0 : List D := gs.map fun b => if b then .int 0 else .non
  have hc : compL (.nm 10) tYesF (eBin oIx (fL (aLst (aCons (eC .non) (aCons (eC (.int 0)) aNil)))) (eArgs oToInt (aCons (eVar 10) aNil))) (bD gs) [.sh (paperD os ps ss), .sh (.int who), .sh (.lst (bD gs)), .sh (.lst (bD ins)), .no, .no, .no, .no, .no, .no, .no, .no] = some fs0 := by
    refine comp_map (by simp [fs0, bD]) fun i d e h1 h2 => ?_
    unfold bD at h1
    rw [List.getElem?_map] at h1
    obtain ⟨b, e1, rfl⟩ := map_some2 h1
    have h2 : (gs[i]?).map (fun b => if b = true then D.int 0 else D.non) = some e := by
      simpa only [fs0, List.getElem?_map] using h2
    rw [e1] at h2
    cases h2
    refine ⟨_, rfl, rfl, ?_⟩
    cases b <;> simp -implicitDefEqProofs
  have hf0 : ∀ d ∈ fs0, IsF d := fun d hd => by
    obtain ⟨b, _, rfl⟩ := List.mem_map.mp hd
    cases b
    · exact .inl rfl
    · exact .inr ⟨0, rfl⟩
  have hl0 : fs0.length = n := by simp [fs0, hg]
  clear_value fs0
  obtain ⟨ρ', e, fs, x5, x6, x7, x8, x9, rfl, h1, h2⟩ := loop_brk (t := .nm 5) (F := (sSeq (sSetF 6 (aLst aNil))
    (sSeq (sFor (aRng1 (aCons (eArgs oLen (aCons (eVar 3) aNil)) aNil)) (.nm 7)
    (sIf (tAndF (tB1 (eBin oIx (eVar 3) (eVar 7))) (tB1 (eBin oIsN (eBin oIx (eOwn 4) (eVar 7)) (eC .non))))
    (sSeq (sSet 8 (fL (aComp (aItems (eBin oIx (eBin oIx (eVar 0) (eC (.int 2))) (eVar 7))) (.nm 11) (tB1 (eBin oIx (eVar 3) (eVar 11))) (eVar 11))))
    (sSeq (sSet 9 (fL (aComp (aItems (eVar 8)) (.nm 11) (tB1 (eBin oNotN (eBin oIx (eOwn 4) (eVar 11)) (eC .non))) (eVar 11))))
    (sIf (tAndF (tB1 (eBin oGt (eArgs oLen (aCons (eVar 9) aNil)) (eC (.int 0)))) (tOrF (tB1 (eBin oEq (eBin oIx (eBin oIx (eVar 0) (eC (.int 0))) (eVar 7)) (eVar 1))) (tB1 (eBin oEq (eArgs oLen (aCons (eVar 9) aNil)) (eArgs oLen (aCons (eVar 8) aNil))))))
    (sApp 6 (eVar 7))
    sNext)))
    sNext))
    (sSeq (sFrz 6 (sFor (aItems (eVar 6)) (.nm 7)
    (sSto 4 (eVar 7) (eVar 5))))
    (sIf (tB1 (eBin oEq (eArgs oLen (aCons (eOwn 6) aNil)) (eC (.int 0))))
    sBreak
    sNext))))) (ds := rangeD 1 n) (ρ := [.sh (paperD os ps ss), .sh (.int who), .sh (.lst (bD gs)), .sh (.lst (bD ins)), .own (.lst fs0), .no, .no, .no, .no, .no, .no, .no])
    (fun ρ => ∃ (fs : List D) (x5 x6 x7 x8 x9 : Cell), ρ = [.sh (paperD os ps ss), .sh (.int who), .sh (.lst (bD gs)), .sh (.lst (bD ins)), .own (.lst fs), x5, x6, x7, x8, x9, .no, .no] ∧ fs.length = n ∧ ∀ d ∈ fs, IsF d)
    ⟨fs0, .no, .no, .no, .no, .no, rfl, hl0, hf0⟩ (by
    rintro d hd _ ⟨fs, x5, x6, x7, x8, x9, rfl, h1, h2⟩
    obtain ⟨i, _, rfl⟩ := rangeD_mem hd
    obtain ⟨fs', y6, y7, y8, y9, k1, k2, o, rfl, k3⟩ := turn_step (gs := gs) who G h hi h1 h2 (1 + (i : Int)) x6 x7 x8 x9
    exact ⟨_, rfl, _, k3.elim .inl (fun z => .inr (.inr z)), fs', .sh (.int (1 + (i : Int))), y6, y7, y8, y9, rfl, k1, k2⟩)
  have hr2 : rng2 [.int 1, .int ((n : Int) + 1)] = some (rangeD 1 n) := by
    rw [rng2_x (by omega)]
    congr 2
    omega
  have l1 : gs.length ≤ 16777216 := by omega
  refine ⟨fs, ?_, h1, h2⟩
  simp -implicitDefEqProofs [F_law_numbers, runF, m_law_numbers, startR, l1, hc, hi, hr2, e]
theorem sets_ok (ns : List Int) (n : Nat) (h : n ≤ 1000) : ∃ gs ins : List Bool, gs.length = n ∧ ins.length = n ∧ F_law_sets [.fl (ns.map .int), .int 1, .int n] = .fr (.lst [.lst (bD gs), .lst (bD ins)]) := by
  obtain ⟨c1, e1⟩ := cell_at ns 1 (by decide)
  obtain ⟨c2, e2⟩ := cell_at ns 2 (by decide)
  obtain ⟨ds, f1, hl1, hb1⟩ := digits2_ok c1 ([4, 3, (n : Int) + 1] ++ List.replicate n 4) (fun s hs => by
    rcases List.mem_append.mp hs with h | h
    · simp only [List.mem_cons, List.not_mem_nil, or_false] at h
      rcases h with rfl | rfl | rfl <;> omega
    · rw [List.eq_of_mem_replicate h]
      omega) (by rw [List.length_append, List.length_replicate]; simp; omega)
  obtain ⟨es, f2, hl2, hb2⟩ := digits2_ok c2 (List.replicate n 4) (fun s hs => by
    rw [List.eq_of_mem_replicate hs]
    omega) (by rw [List.length_replicate]; omega)
  rw [List.length_replicate] at hl2
  obtain ⟨t0, t1, t2, rest, rfl⟩ : ∃ t0 t1 t2 rest, ds = t0 :: t1 :: t2 :: rest := by
    match ds, hl1 with
    | t0 :: t1 :: t2 :: rest, _ => exact ⟨_, _, _, _, rfl⟩
  have hrl : rest.length = n := by simpa using hl1
  have u0 := hb1 0 _ _ rfl rfl
  have u1 := hb1 1 _ _ rfl rfl
  clear hb1 hl1 hb2
  have hr := rng1_n (n := n) (by omega)
  have hc4 : ∀ (x0 x1 x2 x3 x4 x5 x6 : Cell), compL (.nm 7) tYesF (eC (.int 4)) (rangeD 0 n) [x0, x1, x2, x3, x4, x5, x6, .no] = some (List.replicate n (.int 4)) := fun x0 x1 x2 x3 x4 x5 x6 => by
    rw [comp_same (d := .int 4) fun x hx => rfl, rangeD_len]
  let gb : Nat → Bool := fun k => if t0 = 0 then decide ((k : Int) = t2) else if t0 = 1 then decide (rest.getD k 0 = 0) else if t0 = 2 then decide (rest.getD k 0 < 2) else (decide ((k : Int) = t2) || decide ((k : Int) = (n : Int) - 1))
  have cg : compL (.nm 7) tYesF (eBin oIx (fL (aLst (aCons (eBin oEq (eVar 7) (eBin oIx (eVar 3) (eC (.int 2)))) (aCons (eBin oEq (eBin oIx (eVar 3) (eBin oAdd (eC (.int 3)) (eVar 7))) (eC (.int 0))) (aCons (eBin oLt (eBin oIx (eVar 3) (eBin oAdd (eC (.int 3)) (eVar 7))) (eC (.int 2))) (aCons (eOr (eBin oEq (eVar 7) (eBin oIx (eVar 3) (eC (.int 2)))) (eBin oEq (eVar 7) (eBin oSub (eVar 2) (eC (.int 1))))) aNil)))))) (eBin oIx (eVar 3) (eC (.int 0)))) (rangeD 0 n)
      [.sh (.fl (ns.map .int)), .sh (.int 1), .sh (.int n), .sh (.lst (.int t0 :: .int t1 :: .int t2 :: rest.map .int)), .sh (.lst (es.map .int)), .no, .no, .no] = some (bD ((List.range n).map gb)) := by
    unfold bD
    rw [List.map_map]
    refine comp_range fun k hk => ?_
    have hk2 : k < rest.length := by omega
    have e4 : ixD (.int t0 :: .int t1 :: .int t2 :: rest.map .int) (3 + (k : Int)) = some (.int rest[k]) := by
      rw [show (3 : Int) + (k : Int) = ((k + 1 + 1 + 1 : Nat) : Int) by omega, ixD_nat, List.getElem?_cons_succ, List.getElem?_cons_succ, List.getElem?_cons_succ, List.getElem?_map, List.getElem?_eq_getElem hk2]
      rfl
    have eg : rest.getD k 0 = rest[k] := by
      rw [List.getD_eq_getElem?_getD, List.getElem?_eq_getElem hk2]
      rfl
    have ht : t0 = 0 ∨ t0 = 1 ∨ t0 = 2 ∨ t0 = 3 := by omega
    have hgb : (D.bl ∘ gb) k = .bl (gb k) := rfl
    rw [hgb]
    dsimp only [gb]
    rw [eg]
    by_cases hq : t2 = (k : Int)
    · subst hq
      rcases ht with rfl | rfl | rfl | rfl <;> simp -implicitDefEqProofs [e4]
    · have hq' : ¬ (k : Int) = t2 := fun e => hq e.symm
      rcases ht with rfl | rfl | rfl | rfl <;> simp -implicitDefEqProofs [e4, hq']
  clear_value gb
  have hgl : ((List.range n).map gb).length = n := by rw [List.length_map, List.length_range]
  generalize (List.range n).map gb = gs at *
  let ib : Nat → Bool := fun k => bget gs (k : Int) || (decide (t1 = 0) || decide ([0, 0, 1].getD t1.toNat 0 < es.getD k 0))
  have ci : compL (.nm 7) tYesF (eOr (eBin oIx (eVar 5) (eVar 7)) (eOr (eBin oEq (eBin oIx (eVar 3) (eC (.int 1))) (eC (.int 0))) (eBin oGt (eBin oIx (eVar 4) (eVar 7)) (eBin oIx (fL (aLst (aCons (eC (.int 0)) (aCons (eC (.int 0)) (aCons (eC (.int 1)) aNil))))) (eBin oIx (eVar 3) (eC (.int 1))))))) (rangeD 0 n)
      [.sh (.fl (ns.map .int)), .sh (.int 1), .sh (.int n), .sh (.lst (.int t0 :: .int t1 :: .int t2 :: rest.map .int)), .sh (.lst (es.map .int)), .sh (.lst (bD gs)), .no, .no] = some (bD ((List.range n).map ib)) := by
    unfold bD
    rw [List.map_map]
    refine comp_range fun k hk => ?_
    have a1 := at_bl (bs := gs) (v := (k : Int)) (by omega)
    have hk2 : k < es.length := by omega
    have a2 := at_int (l := es) hk2
    have eg : es.getD k 0 = es[k] := by
      rw [List.getD_eq_getElem?_getD, List.getElem?_eq_getElem hk2]
      rfl
    have ht : t1 = 0 ∨ t1 = 1 ∨ t1 = 2 := by omega
    have hib : (D.bl ∘ ib) k = .bl (ib k) := rfl
    rw [hib]
    dsimp only [ib]
    rw [eg]
    unfold bD at a1
    cases hb : bget gs (k : Int) with
    | true => simp -implicitDefEqProofs [a1, hb, bD]
    | false =>
      rcases ht with rfl | rfl | rfl <;> simp -implicitDefEqProofs [a1, a2, hb, bD]
  clear_value ib
  refine ⟨gs, (List.range n).map ib, hgl, by rw [List.length_map, List.length_range], ?_⟩
  have k1 : 3 + n ≤ 16777216 := by omega
  have k2 : n ≤ 16777216 := by omega
  simp only [List.map_append, List.map_cons, List.map_nil, List.map_replicate, List.cons_append, List.nil_append] at f1 f2
  simp -implicitDefEqProofs [F_law_sets, runF, m_law_sets, startR, e1, e2, f1, f2, hr, hc4, k1, k2, cg, ci]
theorem v_step (ns : List Int) (d0 d1 d2 d3 d4 d5 d6 d7 d8 : Int) {n : Nat} {os ps : List Int} {ss : List (List Int)} {gs ins cs : List Bool} {fs : List D} (G : GraphOk n 30 os ps ss) (h : n ≤ 1000) (hi : ins.length = n) (who v : Int) (hv : 0 ≤ v ∧ v < (n : Int)) (c9 : Cell) :
    (sIf (tAndF (tB1 (eBin oIx (eBin oIx (eVar 4) (eC (.int 1))) (eVar 12))) (tNotF (tB1 (eCall F_law_right (aCons (eVar 6) (aCons (eVar 3) (aCons (eVar 11) (aCons (fL (aComp (aRng1 (aCons (eVar 2) aNil)) (.nm 16) tYesF (eBin oEq (eVar 16) (eVar 12)))) (aCons (eBin oIx (eVar 4) (eC (.int 1))) (aCons (eBin oAdd (eBin oIx (eVar 1) (eC (.int 4))) (eVar 12)) aNil))))))))))
    (sRet (eC (.bl false)))
    sNext) [.sh (.fl (ns.map .int)), .sh (.lst [.int d0, .int d1, .int d2, .int d3, .int d4, .int d5, .int d6, .int d7, .int d8]), .sh (.int n), .sh (paperD os ps ss), .sh (.lst [.lst (bD gs), .lst (bD ins)]), .sh (gameD os ps ss), .sh (gamesD os ps ss), .sh (.lst fs), .sh (.lst (bD cs)), c9, .sh (.lst (bD (List.replicate n false))), .sh (.int who), .sh (.int v), .no, .no, .no, .no] = .nx [.sh (.fl (ns.map .int)), .sh (.lst [.int d0, .int d1, .int d2, .int d3, .int d4, .int d5, .int d6, .int d7, .int d8]), .sh (.int n), .sh (paperD os ps ss), .sh (.lst [.lst (bD gs), .lst (bD ins)]), .sh (gameD os ps ss), .sh (gamesD os ps ss), .sh (.lst fs), .sh (.lst (bD cs)), c9, .sh (.lst (bD (List.replicate n false))), .sh (.int who), .sh (.int v), .no, .no, .no, .no] := by
  have hr := rng1_n (n := n) (by omega)
  have a1 := at_bl (bs := ins) (v := v) (by omega)
  have hc : compL (.nm 16) tYesF (eBin oEq (eVar 16) (eVar 12)) (rangeD 0 n) [.sh (.fl (ns.map .int)), .sh (.lst [.int d0, .int d1, .int d2, .int d3, .int d4, .int d5, .int d6, .int d7, .int d8]), .sh (.int n), .sh (paperD os ps ss), .sh (.lst [.lst (bD gs), .lst (bD ins)]), .sh (gameD os ps ss), .sh (gamesD os ps ss), .sh (.lst fs), .sh (.lst (bD cs)), c9, .sh (.lst (bD (List.replicate n false))), .sh (.int who), .sh (.int v), .no, .no, .no, .no] = some (bD ((List.range n).map fun k : Nat => decide ((k : Int) = v))) := by
    unfold bD
    rw [List.map_map]
    refine comp_range fun k hk => ?_
    simp -implicitDefEqProofs
  have hrt := right_ok (cs := (List.range n).map fun k : Nat => decide ((k : Int) = v)) (ins := ins) who (d4 + v) G h (by rw [List.length_map, List.length_range]) hi
  have l1 : n ≤ 16777216 := by omega
  generalize ((List.range n).map fun k : Nat => decide ((k : Int) = v)) = vs at *
  cases hb : bget ins v with
  | true => simp -implicitDefEqProofs [a1, hr, hc, hrt, l1, hb]
  | false => simp -implicitDefEqProofs [a1, hb]
theorem who_step (ns : List Int) (d0 d1 d2 d3 d4 d5 d6 d7 d8 : Int) {n : Nat} {os ps : List Int} {ss : List (List Int)} {gs ins cs : List Bool} {fs : List D} (G : GraphOk n 30 os ps ss) (h : n ≤ 1000) (hi : ins.length = n) (hc : cs.length = n) (who : Int) (c8 c9 c12 : Cell) (h8 : frzC c8 = .sh (.lst (bD cs))) :
    ∃ c12', (sSeq (sFrz 8 (sIf (tOrF (tNotF (tB1 (eCall F_law_right (aCons (eVar 6) (aCons (eVar 3) (aCons (eVar 11) (aCons (eVar 8) (aCons (eBin oIx (eVar 4) (eC (.int 1))) (aCons (eBin oIx (eVar 1) (eC (.int 4))) aNil))))))))) (tNotF (tB1 (eCall F_law_right (aCons (eVar 6) (aCons (eVar 3) (aCons (eVar 11) (aCons (eVar 10) (aCons (eBin oIx (eVar 4) (eC (.int 1))) (aCons (eBin oIx (eVar 1) (eC (.int 4))) aNil))))))))))
    (sRet (eC (.bl false)))
    sNext))
    (sSeq (sIf (tNotF (tB1 (eCall F_law_right (aCons (eVar 6) (aCons (eVar 3) (aCons (eVar 11) (aCons (eBin oIx (eVar 4) (eC (.int 1))) (aCons (eBin oIx (eVar 4) (eC (.int 1))) (aCons (eBin oAdd (eBin oIx (eVar 1) (eC (.int 4))) (eC (.int 1))) aNil)))))))))
    (sRet (eC (.bl false)))
    sNext)
    (sFor (aItems (fL (aBin oCatL (fL (aLR1 (eArgs oMin2 (aCons (eVar 2) (aCons (eC (.int 10)) aNil))))) (fL (aLR2 (eArgs oMax2 (aCons (eC (.int 10)) (aCons (eBin oSub (eVar 2) (eC (.int 1))) aNil))) (eVar 2)))))) (.nm 12)
    (sIf (tAndF (tB1 (eBin oIx (eBin oIx (eVar 4) (eC (.int 1))) (eVar 12))) (tNotF (tB1 (eCall F_law_right (aCons (eVar 6) (aCons (eVar 3) (aCons (eVar 11) (aCons (fL (aComp (aRng1 (aCons (eVar 2) aNil)) (.nm 16) tYesF (eBin oEq (eVar 16) (eVar 12)))) (aCons (eBin oIx (eVar 4) (eC (.int 1))) (aCons (eBin oAdd (eBin oIx (eVar 1) (eC (.int 4))) (eVar 12)) aNil))))))))))
    (sRet (eC (.bl false)))
    sNext)))) [.sh (.fl (ns.map .int)), .sh (.lst [.int d0, .int d1, .int d2, .int d3, .int d4, .int d5, .int d6, .int d7, .int d8]), .sh (.int n), .sh (paperD os ps ss), .sh (.lst [.lst (bD gs), .lst (bD ins)]), .sh (gameD os ps ss), .sh (gamesD os ps ss), .sh (.lst fs), c8, c9, .sh (.lst (bD (List.replicate n false))), .sh (.int who), c12, .no, .no, .no, .no] = .nx [.sh (.fl (ns.map .int)), .sh (.lst [.int d0, .int d1, .int d2, .int d3, .int d4, .int d5, .int d6, .int d7, .int d8]), .sh (.int n), .sh (paperD os ps ss), .sh (.lst [.lst (bD gs), .lst (bD ins)]), .sh (gameD os ps ss), .sh (gamesD os ps ss), .sh (.lst fs), .sh (.lst (bD cs)), c9, .sh (.lst (bD (List.replicate n false))), .sh (.int who), c12', .no, .no, .no, .no] := by
  have r1 := right_ok (cs := cs) (ins := ins) who d4 G h hc hi
  have r2 := right_ok (cs := List.replicate n false) (ins := ins) who d4 G h (by simp) hi
  have r3 := right_ok (cs := ins) (ins := ins) who (d4 + 1) G h hi hi
  have e1 : lr2 (.int 0) (.int (min (n : Int) 10)) = some (rangeD 0 (min n 10)) := by
    rw [lr2_n (by omega), show (min (n : Int) 10 - 0).toNat = min n 10 by omega]
  have e2 : lr2 (.int (max 10 ((n : Int) - 1))) (.int n) = some (rangeD (max 10 ((n : Int) - 1)) (n - max 10 (n - 1))) := by
    rw [lr2_n (by omega), show ((n : Int) - max 10 ((n : Int) - 1)).toNat = n - max 10 (n - 1) by omega]
  obtain ⟨ρ', el, c12', rfl⟩ := loop_inv (t := .nm 12) (F := (sIf (tAndF (tB1 (eBin oIx (eBin oIx (eVar 4) (eC (.int 1))) (eVar 12))) (tNotF (tB1 (eCall F_law_right (aCons (eVar 6) (aCons (eVar 3) (aCons (eVar 11) (aCons (fL (aComp (aRng1 (aCons (eVar 2) aNil)) (.nm 16) tYesF (eBin oEq (eVar 16) (eVar 12)))) (aCons (eBin oIx (eVar 4) (eC (.int 1))) (aCons (eBin oAdd (eBin oIx (eVar 1) (eC (.int 4))) (eVar 12)) aNil))))))))))
    (sRet (eC (.bl false)))
    sNext)) (ds := rangeD 0 (min n 10) ++ rangeD (max 10 ((n : Int) - 1)) (n - max 10 (n - 1))) (ρ := [.sh (.fl (ns.map .int)), .sh (.lst [.int d0, .int d1, .int d2, .int d3, .int d4, .int d5, .int d6, .int d7, .int d8]), .sh (.int n), .sh (paperD os ps ss), .sh (.lst [.lst (bD gs), .lst (bD ins)]), .sh (gameD os ps ss), .sh (gamesD os ps ss), .sh (.lst fs), .sh (.lst (bD cs)), c9, .sh (.lst (bD (List.replicate n false))), .sh (.int who), c12, .no, .no, .no, .no])
    (fun _ ρ => ∃ c12', ρ = [.sh (.fl (ns.map .int)), .sh (.lst [.int d0, .int d1, .int d2, .int d3, .int d4, .int d5, .int d6, .int d7, .int d8]), .sh (.int n), .sh (paperD os ps ss), .sh (.lst [.lst (bD gs), .lst (bD ins)]), .sh (gameD os ps ss), .sh (gamesD os ps ss), .sh (.lst fs), .sh (.lst (bD cs)), c9, .sh (.lst (bD (List.replicate n false))), .sh (.int who), c12', .no, .no, .no, .no]) ⟨c12, rfl⟩ (by
    rintro i d _ hd ⟨c12', rfl⟩
    obtain ⟨v, hv, rfl⟩ : ∃ v : Int, (0 ≤ v ∧ v < (n : Int)) ∧ d = .int v := by
      rcases List.mem_append.mp (List.mem_of_getElem? hd) with hm | hm
      · obtain ⟨k, hk, rfl⟩ := rangeD_mem hm
        exact ⟨_, by omega, rfl⟩
      · obtain ⟨k, hk, rfl⟩ := rangeD_mem hm
        exact ⟨_, by omega, rfl⟩
    exact ⟨_, rfl, _, .inl (v_step ns d0 d1 d2 d3 d4 d5 d6 d7 d8 G h hi who v hv c9), ⟨.sh (.int v), rfl⟩⟩)
  have l1 : min n 10 + (n - max 10 (n - 1)) ≤ 16777216 := by omega
  refine ⟨c12', ?_⟩
  simp -implicitDefEqProofs [h8, r1, r2, r3, e1, e2, l1, el]
theorem tail_ok (ns : List Int) (d0 d1 d2 d3 d4 d5 d6 d7 d8 : Int) {n : Nat} (h : n ≤ 1000) (h6 : 0 ≤ d6) : (sSeq (sSet 3 (eCall graphF (aCons (eVar 0) (aCons (eC (.int 3)) (aCons (eVar 2) (aCons (eC (.int 30)) aNil))))))
    (sSeq (sSet 4 (eCall F_law_sets (aCons (eVar 0) (aCons (eC (.int 1)) (aCons (eVar 2) aNil)))))
    (sSeq (sSet 5 (fW (aMake 0 Game_initF (aCons (fL (aArgs oList (aCons (eBin oIx (eVar 3) (eC (.int 0))) aNil))) (aCons (fL (aArgs oList (aCons (eBin oIx (eVar 3) (eC (.int 1))) aNil))) (aCons (fL (aComp (aItems (eBin oIx (eVar 3) (eC (.int 2)))) (.nm 14) tYesF (fL (aArgs oList (aCons (eVar 14) aNil))))) aNil))))))
    (sSeq (sSet 6 (fL (aLst (aCons (eVar 5) (aCons (fW (aMake 0 Game_initF (aCons (fL (aComp (aItems (eBin oIx (eVar 3) (eC (.int 0)))) (.nm 15) tYesF (eBin oSub (eC (.int 1)) (eVar 15)))) (aCons (fL (aArgs oList (aCons (eBin oIx (eVar 3) (eC (.int 1))) aNil))) (aCons (fL (aComp (aItems (eBin oIx (eVar 3) (eC (.int 2)))) (.nm 14) tYesF (fL (aArgs oList (aCons (eVar 14) aNil))))) aNil))))) aNil)))))
    (sSeq (sSet 7 (eCall F_law_numbers (aCons (eVar 3) (aCons (eBin oIx (eVar 1) (eC (.int 3))) (aCons (eBin oIx (eVar 4) (eC (.int 0))) (aCons (eBin oIx (eVar 4) (eC (.int 1))) aNil))))))
    (sSeq (sSetF 8 (aComp (aRng1 (aCons (eVar 2) aNil)) (.nm 12) tYesF (eAnd (eBin oIx (eBin oIx (eVar 4) (eC (.int 1))) (eVar 12)) (eBin oIsN (eBin oIx (eVar 7) (eVar 12)) (eC .non)))))
    (sSeq (sIf (tAndF (tB1 (eBin oEq (eBin oIx (eVar 1) (eC (.int 5))) (eC (.int 1)))) (tB1 (eBin oLt (eBin oIx (eVar 1) (eC (.int 6))) (eVar 2))))
    (sSeq (sSet 9 (eBin oIx (eVar 1) (eC (.int 6))))
    (sSto 8 (eVar 9) (eAnd (eBin oIx (eBin oIx (eVar 4) (eC (.int 1))) (eVar 9)) (e1o oNot (eBin oIx (eOwn 8) (eVar 9))))))
    sNext)
    (sSeq (sSet 10 (fL (aComp (aRng1 (aCons (eVar 2) aNil)) (.nm 12) tYesF (eC (.bl false)))))
    (sSeq (sFor (aItems (fL (aLst (aCons (eC (.int 0)) (aCons (eC (.int 1)) (aCons (eC (.int 0)) aNil)))))) (.nm 11)
    (sSeq (sFrz 8 (sIf (tOrF (tNotF (tB1 (eCall F_law_right (aCons (eVar 6) (aCons (eVar 3) (aCons (eVar 11) (aCons (eVar 8) (aCons (eBin oIx (eVar 4) (eC (.int 1))) (aCons (eBin oIx (eVar 1) (eC (.int 4))) aNil))))))))) (tNotF (tB1 (eCall F_law_right (aCons (eVar 6) (aCons (eVar 3) (aCons (eVar 11) (aCons (eVar 10) (aCons (eBin oIx (eVar 4) (eC (.int 1))) (aCons (eBin oIx (eVar 1) (eC (.int 4))) aNil))))))))))
    (sRet (eC (.bl false)))
    sNext))
    (sSeq (sIf (tNotF (tB1 (eCall F_law_right (aCons (eVar 6) (aCons (eVar 3) (aCons (eVar 11) (aCons (eBin oIx (eVar 4) (eC (.int 1))) (aCons (eBin oIx (eVar 4) (eC (.int 1))) (aCons (eBin oAdd (eBin oIx (eVar 1) (eC (.int 4))) (eC (.int 1))) aNil)))))))))
    (sRet (eC (.bl false)))
    sNext)
    (sFor (aItems (fL (aBin oCatL (fL (aLR1 (eArgs oMin2 (aCons (eVar 2) (aCons (eC (.int 10)) aNil))))) (fL (aLR2 (eArgs oMax2 (aCons (eC (.int 10)) (aCons (eBin oSub (eVar 2) (eC (.int 1))) aNil))) (eVar 2)))))) (.nm 12)
    (sIf (tAndF (tB1 (eBin oIx (eBin oIx (eVar 4) (eC (.int 1))) (eVar 12))) (tNotF (tB1 (eCall F_law_right (aCons (eVar 6) (aCons (eVar 3) (aCons (eVar 11) (aCons (fL (aComp (aRng1 (aCons (eVar 2) aNil)) (.nm 16) tYesF (eBin oEq (eVar 16) (eVar 12)))) (aCons (eBin oIx (eVar 4) (eC (.int 1))) (aCons (eBin oAdd (eBin oIx (eVar 1) (eC (.int 4))) (eVar 12)) aNil))))))))))
    (sRet (eC (.bl false)))
    sNext)))))
    (sSeq (sSet 13 (eArgs oTuple (aCons (fL (aComp (aItems (eBin oIx (eVar 3) (eC (.int 2)))) (.nm 14) tYesF (eArgs oTuple (aCons (eVar 14) aNil)))) aNil)))
    (sRet (eBin oEq (eTup (aCons (e1o (oFld 0 0) (eVar 5)) (aCons (e1o (oFld 0 1) (eVar 5)) (aCons (e1o (oFld 0 2) (eVar 5)) aNil)))) (eTup (aCons (eArgs oTuple (aCons (eBin oIx (eVar 3) (eC (.int 0))) aNil)) (aCons (eArgs oTuple (aCons (eBin oIx (eVar 3) (eC (.int 1))) aNil)) (aCons (eVar 13) aNil)))))))))))))))) [.sh (.fl (ns.map .int)), .sh (.lst [.int d0, .int d1, .int d2, .int d3, .int d4, .int d5, .int d6, .int d7, .int d8]), .sh (.int n), .no, .no, .no, .no, .no, .no, .no, .no, .no, .no, .no, .no, .no, .no] = .rt (.bl true) := by
  obtain ⟨os, ps, ss, G, eg⟩ := graph_ok ns 3 (by decide) n h 30 (by decide)
  obtain ⟨gs, ins, hg, hi, es⟩ := sets_ok ns n h
  have GO : ∀ os' : List Int, os'.length = n → (∀ o ∈ os', 0 ≤ o ∧ o ≤ 1) → GameOk os' ps ss := fun os' hl ho => ⟨by rw [G.lp, hl], by rw [G.ls, hl], by omega, ho, G.pr, fun r hr => by
    obtain ⟨r1, r2, c, rfl, r3⟩ := G.su r hr
    rw [hl]
    exact ⟨r1, r3⟩⟩
  have hrl : ∀ r ∈ ss, r.length ≤ 16777216 := fun r hr => by
    have := (G.su r hr).2.1
    omega
  have fp := frozen_ints (n := 2) (d := .lst (ps.map .int)) (.inl rfl) (by have := G.lp; omega)
  have fs0 := frozen_rows (n := 1) (d := .lst (ss.map rowL)) (.inl rfl) (by have := G.ls; omega) hrl
  have i1 := init_game (a := .lst (os.map .int)) (GO os G.lo G.ow) (frozen_ints (n := 2) (.inl rfl) (by have := G.lo; omega)) fp fs0
  have hos : ∀ o ∈ os.map (fun o => 1 - o), 0 ≤ o ∧ o ≤ 1 := fun o ho => by
    obtain ⟨x, hx, rfl⟩ := List.mem_map.mp ho
    have := G.ow x hx
    omega
  have i2 := init_game (a := .lst ((os.map fun o => 1 - o).map .int)) (GO (os.map fun o => 1 - o) (by rw [List.length_map, G.lo]) hos) (frozen_ints (n := 2) (.inl rfl) (by rw [List.length_map]; have := G.lo; omega)) fp fs0
  obtain ⟨fs, en, hfl, hff⟩ := numbers_ok (gs := gs) d3 G h hg hi
  have hr := rng1_n (n := n) (by omega)
  have q1 : ∀ (ρ : Fw.Env), ρ.length = 17 → compL (.nm 14) tYesF (fL (aArgs oList (aCons (eVar 14) aNil))) (ss.map rowL) ρ = some (ss.map rowL) := fun ρ hρ => by
    have := comp_fun (i := 14) (f := fL (aArgs oList (aCons (eVar 14) aNil))) (ρ := ρ) (g := id) (ds := ss.map rowL) fun d hd => by
      obtain ⟨r, _, rfl⟩ := List.mem_map.mp hd
      have hc : ∀ d, cellAt (ρ.set 14 d) 14 = d := fun d => by
        match ρ, hρ with
        | [_, _, _, _, _, _, _, _, _, _, _, _, _, _, _, _, _], _ => rfl
      simp -implicitDefEqProofs [hc, rowL]
    rw [this, List.map_id]
  have q2 : ∀ (x0 x1 x2 x3 x4 x5 x6 x7 x8 x9 x10 x11 x12 x13 x14 x16 : Cell), compL (.nm 15) tYesF (eBin oSub (eC (.int 1)) (eVar 15)) (os.map .int) [x0, x1, x2, x3, x4, x5, x6, x7, x8, x9, x10, x11, x12, x13, x14, .no, x16] = some ((os.map fun o => 1 - o).map .int) := fun x0 x1 x2 x3 x4 x5 x6 x7 x8 x9 x10 x11 x12 x13 x14 x16 => by
    rw [List.map_map]
    refine comp_ints fun o ho => ?_
    simp -implicitDefEqProofs
  let c0 : Nat → Bool := fun k => bget ins (k : Int) && isNonD (fs.getD k .non)
  have q3 : ∀ (x0 x1 x2 x3 x5 x6 x8 x9 x10 x11 x13 x14 x15 x16 : Cell), compL (.nm 12) tYesF (eAnd (eBin oIx (eBin oIx (eVar 4) (eC (.int 1))) (eVar 12)) (eBin oIsN (eBin oIx (eVar 7) (eVar 12)) (eC .non))) (rangeD 0 n) [x0, x1, x2, x3, .sh (.lst [.lst (bD gs), .lst (bD ins)]), x5, x6, .sh (.lst fs), x8, x9, x10, x11, .no, x13, x14, x15, x16] = some (bD ((List.range n).map c0)) := fun x0 x1 x2 x3 x5 x6 x8 x9 x10 x11 x13 x14 x15 x16 => by
    have e : bD ((List.range n).map c0) = (List.range n).map fun k => D.bl (c0 k) := by
      unfold bD
      rw [List.map_map]
      rfl
    rw [e]
    refine comp_range fun k hk => ?_
    have a1 := at_bl (bs := ins) (v := (k : Int)) (by omega)
    have hkf : k < fs.length := by omega
    have a2 : ixD fs (k : Int) = some fs[k] := by rw [ixD_nat, List.getElem?_eq_getElem hkf]
    have a3 : fs.getD k .non = fs[k] := by
      rw [List.getD_eq_getElem?_getD, List.getElem?_eq_getElem hkf]
      rfl
    dsimp only [c0]
    rw [a3]
    cases hb : bget ins (k : Int) <;> simp -implicitDefEqProofs [a1, a2, hb]
  clear_value c0
  have hcl : ((List.range n).map c0).length = n := by rw [List.length_map, List.length_range]
  generalize (List.range n).map c0 = cs0 at *
  have q4 : ∀ (x0 x1 x2 x3 x4 x5 x6 x7 x8 x9 x10 x11 x13 x14 x15 x16 : Cell), compL (.nm 12) tYesF (eC (.bl false)) (rangeD 0 n) [x0, x1, x2, x3, x4, x5, x6, x7, x8, x9, x10, x11, .no, x13, x14, x15, x16] = some (bD (List.replicate n false)) := fun x0 x1 x2 x3 x4 x5 x6 x7 x8 x9 x10 x11 x13 x14 x15 x16 => by
    rw [comp_same (d := .bl false) fun x hx => rfl, rangeD_len]
    unfold bD
    rw [List.map_replicate]
  have q5 : ∀ (ρ : Fw.Env), ρ.length = 17 → compL (.nm 14) tYesF (eArgs oTuple (aCons (eVar 14) aNil)) (ss.map rowL) ρ = some (ss.map rowD) := fun ρ hρ => by
    refine comp_map (by simp) fun i d e h1 h2 => ?_
    rw [List.getElem?_map] at h1 h2
    obtain ⟨r, e1, rfl⟩ := map_some2 h1
    rw [e1] at h2
    cases h2
    have hc : ∀ d, cellAt (ρ.set 14 d) 14 = d := fun d => by
      match ρ, hρ with
      | [_, _, _, _, _, _, _, _, _, _, _, _, _, _, _, _, _], _ => rfl
    refine ⟨_, rfl, rfl, ?_⟩
    simp -implicitDefEqProofs [hc, rowL, rowD]
  have rest : ∀ (cs : List Bool) (c9 : Cell), cs.length = n → ∃ c11 c12 c8, loopF (.nm 11) (sSeq (sFrz 8 (sIf (tOrF (tNotF (tB1 (eCall F_law_right (aCons (eVar 6) (aCons (eVar 3) (aCons (eVar 11) (aCons (eVar 8) (aCons (eBin oIx (eVar 4) (eC (.int 1))) (aCons (eBin oIx (eVar 1) (eC (.int 4))) aNil))))))))) (tNotF (tB1 (eCall F_law_right (aCons (eVar 6) (aCons (eVar 3) (aCons (eVar 11) (aCons (eVar 10) (aCons (eBin oIx (eVar 4) (eC (.int 1))) (aCons (eBin oIx (eVar 1) (eC (.int 4))) aNil))))))))))
    (sRet (eC (.bl false)))
    sNext))
    (sSeq (sIf (tNotF (tB1 (eCall F_law_right (aCons (eVar 6) (aCons (eVar 3) (aCons (eVar 11) (aCons (eBin oIx (eVar 4) (eC (.int 1))) (aCons (eBin oIx (eVar 4) (eC (.int 1))) (aCons (eBin oAdd (eBin oIx (eVar 1) (eC (.int 4))) (eC (.int 1))) aNil)))))))))
    (sRet (eC (.bl false)))
    sNext)
    (sFor (aItems (fL (aBin oCatL (fL (aLR1 (eArgs oMin2 (aCons (eVar 2) (aCons (eC (.int 10)) aNil))))) (fL (aLR2 (eArgs oMax2 (aCons (eC (.int 10)) (aCons (eBin oSub (eVar 2) (eC (.int 1))) aNil))) (eVar 2)))))) (.nm 12)
    (sIf (tAndF (tB1 (eBin oIx (eBin oIx (eVar 4) (eC (.int 1))) (eVar 12))) (tNotF (tB1 (eCall F_law_right (aCons (eVar 6) (aCons (eVar 3) (aCons (eVar 11) (aCons (fL (aComp (aRng1 (aCons (eVar 2) aNil)) (.nm 16) tYesF (eBin oEq (eVar 16) (eVar 12)))) (aCons (eBin oIx (eVar 4) (eC (.int 1))) (aCons (eBin oAdd (eBin oIx (eVar 1) (eC (.int 4))) (eVar 12)) aNil))))))))))
    (sRet (eC (.bl false)))
    sNext)))) [.int 0, .int 1, .int 0] [.sh (.fl (ns.map .int)), .sh (.lst [.int d0, .int d1, .int d2, .int d3, .int d4, .int d5, .int d6, .int d7, .int d8]), .sh (.int n), .sh (paperD os ps ss), .sh (.lst [.lst (bD gs), .lst (bD ins)]), .sh (gameD os ps ss), .sh (gamesD os ps ss), .sh (.lst fs), .own (.lst (bD cs)), c9, .sh (.lst (bD (List.replicate n false))), .no, .no, .no, .no, .no, .no] = .nx [.sh (.fl (ns.map .int)), .sh (.lst [.int d0, .int d1, .int d2, .int d3, .int d4, .int d5, .int d6, .int d7, .int d8]), .sh (.int n), .sh (paperD os ps ss), .sh (.lst [.lst (bD gs), .lst (bD ins)]), .sh (gameD os ps ss), .sh (gamesD os ps ss), .sh (.lst fs), c8, c9, .sh (.lst (bD (List.replicate n false))), c11, c12, .no, .no, .no, .no] := fun cs c9 hc => by
    obtain ⟨z1, w1⟩ := who_step ns d0 d1 d2 d3 d4 d5 d6 d7 d8 (gs := gs) (fs := fs) G h hi hc 0 (.own (.lst (bD cs))) c9 .no rfl
    obtain ⟨z2, w2⟩ := who_step ns d0 d1 d2 d3 d4 d5 d6 d7 d8 (gs := gs) (fs := fs) G h hi hc 1 (.sh (.lst (bD cs))) c9 z1 rfl
    obtain ⟨z3, w3⟩ := who_step ns d0 d1 d2 d3 d4 d5 d6 d7 d8 (gs := gs) (fs := fs) G h hi hc 0 (.sh (.lst (bD cs))) c9 z2 rfl
    refine ⟨.sh (.int 0), z3, .sh (.lst (bD cs)), ?_⟩
    rw [loop_cons, put_nm, opt_some]
    simp only [List.set_cons_succ, List.set_cons_zero]
    rw [w1, turn_nx, loop_cons, put_nm, opt_some]
    simp only [List.set_cons_succ, List.set_cons_zero]
    rw [w2, turn_nx, loop_cons, put_nm, opt_some]
    simp only [List.set_cons_succ, List.set_cons_zero]
    rw [w3, turn_nx, loop_nil]
  have heq : oEq (.tup [.tup (os.map .int), .tup (ps.map .int), .tup (ss.map rowD)]) (.tup [.tup (os.map .int), .tup (ps.map .int), .tup (ss.map rowD)]) = some (.bl true) := oEq_self (by
    simp only [Simp]
    intro x hx
    simp only [List.mem_cons, List.not_mem_nil, or_false] at hx
    rcases hx with rfl | rfl | rfl
    · exact simp_tup
    · exact simp_tup
    · exact simp_rows) (.inl ⟨_, rfl⟩)
  have l1 : n ≤ 16777216 := by omega
  have lo := G.lo
  have lp := G.lp
  have ls := G.ls
  simp only [paperD] at en
  simp only [paperD, gamesD, gameD] at rest
  generalize (os.map fun o => 1 - o) = os2 at *
  by_cases hp : d5 = 1 ∧ d6 < (n : Int)
  · obtain ⟨k, rfl⟩ := Int.eq_ofNat_of_zero_le h6
    have hk : k < n := by omega
    obtain ⟨h5, _⟩ := hp
    subst h5
    have a1 := at_bl (bs := ins) (v := (k : Int)) (by omega)
    have a2 := at_bl (bs := cs0) (v := (k : Int)) (by omega)
    have st : ∀ (ρ : Fw.Env) (b : Bool), sto ρ 8 (k : Int) (.bl b) (.own (.lst (bD cs0))) = .nx (ρ.set 8 (.own (.lst (bD (cs0.set k b))))) := fun ρ b => by
      rw [sto_pos (by rw [bD_len]; omega), Int.toNat_natCast]
      unfold bD
      rw [List.map_set]
    obtain ⟨c11, c12, c8, e⟩ := rest (cs0.set k (bget ins (k : Int) && !bget cs0 (k : Int))) (.sh (.int k)) (by rw [List.length_set, hcl])
    cases hb : bget ins (k : Int) with
    | true =>
      rw [hb] at e a1
      simp only [Bool.true_and, Bool.false_and] at e
      simp -implicitDefEqProofs [eg, es, i1, i2, q1, q2, q3, q4, q5, en, hr, l1, lo, lp, ls, hk, a1, a2, st, heq]
      simp -implicitDefEqProofs [e, q5, heq, ls, l1]
    | false =>
      rw [hb] at e a1
      simp only [Bool.true_and, Bool.false_and] at e
      simp -implicitDefEqProofs [eg, es, i1, i2, q1, q2, q3, q4, q5, en, hr, l1, lo, lp, ls, hk, a1, a2, st, heq]
      simp -implicitDefEqProofs [e, q5, heq, ls, l1]
  · obtain ⟨c11, c12, c8, e⟩ := rest cs0 .no hcl
    by_cases h5 : d5 = 1
    · have h7 : ¬ d6 < (n : Int) := fun z => hp ⟨h5, z⟩
      rw [h5] at e
      simp -implicitDefEqProofs [eg, es, i1, i2, q1, q2, q3, q4, q5, en, hr, l1, lo, lp, ls, h5, h7, e, heq]
    · simp -implicitDefEqProofs [eg, es, i1, i2, q1, q2, q3, q4, q5, en, hr, l1, lo, lp, ls, h5, e, heq]
theorem law_holds (ns : List Int) (hns : ns.length ≤ 63) : F_law [.fl (ns.map D.int)] = .ok (.bl true) := by
  obtain ⟨c0, e0⟩ := cell_at ns 0 (by decide)
  obtain ⟨hd, f0, hl0, hb0⟩ := digits2_ok c0 [2, 11, 4, 2, 4, 2, 11, 9, 41] (by decide) (by decide)
  obtain ⟨d0, d1, d2, d3, d4, d5, d6, d7, d8, rfl⟩ : ∃ d0 d1 d2 d3 d4 d5 d6 d7 d8, hd = [d0, d1, d2, d3, d4, d5, d6, d7, d8] := by
    match hd, hl0 with
    | [d0, d1, d2, d3, d4, d5, d6, d7, d8], _ => exact ⟨_, _, _, _, _, _, _, _, _, rfl⟩
  have b0 := hb0 0 _ _ rfl rfl
  have b1 := hb0 1 _ _ rfl rfl
  have b2 := hb0 2 _ _ rfl rfl
  have b6 := hb0 6 _ _ rfl rfl
  have b8 := hb0 8 _ _ rfl rfl
  clear hb0 hl0
  obtain ⟨w, ew, hw⟩ : ∃ w : Int, ixD [.int d1, .int (7 + d2)] d0 = some (.int w) ∧ 0 ≤ w ∧ w ≤ 100 := by
    have : d0 = 0 ∨ d0 = 1 := by omega
    rcases this with rfl | rfl
    · exact ⟨d1, rfl, by omega⟩
    · exact ⟨7 + d2, rfl, by omega⟩
  obtain ⟨m, rfl⟩ := Int.eq_ofNat_of_zero_le hw.1
  obtain ⟨m8, rfl⟩ := Int.eq_ofNat_of_zero_le b8.1
  simp only [List.map_cons, List.map_nil] at f0
  by_cases h7 : d7 = 8
  · subst h7
    have t := tail_ok ns d0 d1 d2 d3 d4 d5 d6 8 (m8 : Int) (n := m8) (by omega) b6.1
    have u : F_law [.fl (ns.map D.int)] = retOf ((sSeq (sSet 3 (eCall graphF (aCons (eVar 0) (aCons (eC (.int 3)) (aCons (eVar 2) (aCons (eC (.int 30)) aNil))))))
    (sSeq (sSet 4 (eCall F_law_sets (aCons (eVar 0) (aCons (eC (.int 1)) (aCons (eVar 2) aNil)))))
    (sSeq (sSet 5 (fW (aMake 0 Game_initF (aCons (fL (aArgs oList (aCons (eBin oIx (eVar 3) (eC (.int 0))) aNil))) (aCons (fL (aArgs oList (aCons (eBin oIx (eVar 3) (eC (.int 1))) aNil))) (aCons (fL (aComp (aItems (eBin oIx (eVar 3) (eC (.int 2)))) (.nm 14) tYesF (fL (aArgs oList (aCons (eVar 14) aNil))))) aNil))))))
    (sSeq (sSet 6 (fL (aLst (aCons (eVar 5) (aCons (fW (aMake 0 Game_initF (aCons (fL (aComp (aItems (eBin oIx (eVar 3) (eC (.int 0)))) (.nm 15) tYesF (eBin oSub (eC (.int 1)) (eVar 15)))) (aCons (fL (aArgs oList (aCons (eBin oIx (eVar 3) (eC (.int 1))) aNil))) (aCons (fL (aComp (aItems (eBin oIx (eVar 3) (eC (.int 2)))) (.nm 14) tYesF (fL (aArgs oList (aCons (eVar 14) aNil))))) aNil))))) aNil)))))
    (sSeq (sSet 7 (eCall F_law_numbers (aCons (eVar 3) (aCons (eBin oIx (eVar 1) (eC (.int 3))) (aCons (eBin oIx (eVar 4) (eC (.int 0))) (aCons (eBin oIx (eVar 4) (eC (.int 1))) aNil))))))
    (sSeq (sSetF 8 (aComp (aRng1 (aCons (eVar 2) aNil)) (.nm 12) tYesF (eAnd (eBin oIx (eBin oIx (eVar 4) (eC (.int 1))) (eVar 12)) (eBin oIsN (eBin oIx (eVar 7) (eVar 12)) (eC .non)))))
    (sSeq (sIf (tAndF (tB1 (eBin oEq (eBin oIx (eVar 1) (eC (.int 5))) (eC (.int 1)))) (tB1 (eBin oLt (eBin oIx (eVar 1) (eC (.int 6))) (eVar 2))))
    (sSeq (sSet 9 (eBin oIx (eVar 1) (eC (.int 6))))
    (sSto 8 (eVar 9) (eAnd (eBin oIx (eBin oIx (eVar 4) (eC (.int 1))) (eVar 9)) (e1o oNot (eBin oIx (eOwn 8) (eVar 9))))))
    sNext)
    (sSeq (sSet 10 (fL (aComp (aRng1 (aCons (eVar 2) aNil)) (.nm 12) tYesF (eC (.bl false)))))
    (sSeq (sFor (aItems (fL (aLst (aCons (eC (.int 0)) (aCons (eC (.int 1)) (aCons (eC (.int 0)) aNil)))))) (.nm 11)
    (sSeq (sFrz 8 (sIf (tOrF (tNotF (tB1 (eCall F_law_right (aCons (eVar 6) (aCons (eVar 3) (aCons (eVar 11) (aCons (eVar 8) (aCons (eBin oIx (eVar 4) (eC (.int 1))) (aCons (eBin oIx (eVar 1) (eC (.int 4))) aNil))))))))) (tNotF (tB1 (eCall F_law_right (aCons (eVar 6) (aCons (eVar 3) (aCons (eVar 11) (aCons (eVar 10) (aCons (eBin oIx (eVar 4) (eC (.int 1))) (aCons (eBin oIx (eVar 1) (eC (.int 4))) aNil))))))))))
    (sRet (eC (.bl false)))
    sNext))
    (sSeq (sIf (tNotF (tB1 (eCall F_law_right (aCons (eVar 6) (aCons (eVar 3) (aCons (eVar 11) (aCons (eBin oIx (eVar 4) (eC (.int 1))) (aCons (eBin oIx (eVar 4) (eC (.int 1))) (aCons (eBin oAdd (eBin oIx (eVar 1) (eC (.int 4))) (eC (.int 1))) aNil)))))))))
    (sRet (eC (.bl false)))
    sNext)
    (sFor (aItems (fL (aBin oCatL (fL (aLR1 (eArgs oMin2 (aCons (eVar 2) (aCons (eC (.int 10)) aNil))))) (fL (aLR2 (eArgs oMax2 (aCons (eC (.int 10)) (aCons (eBin oSub (eVar 2) (eC (.int 1))) aNil))) (eVar 2)))))) (.nm 12)
    (sIf (tAndF (tB1 (eBin oIx (eBin oIx (eVar 4) (eC (.int 1))) (eVar 12))) (tNotF (tB1 (eCall F_law_right (aCons (eVar 6) (aCons (eVar 3) (aCons (eVar 11) (aCons (fL (aComp (aRng1 (aCons (eVar 2) aNil)) (.nm 16) tYesF (eBin oEq (eVar 16) (eVar 12)))) (aCons (eBin oIx (eVar 4) (eC (.int 1))) (aCons (eBin oAdd (eBin oIx (eVar 1) (eC (.int 4))) (eVar 12)) aNil))))))))))
    (sRet (eC (.bl false)))
    sNext)))))
    (sSeq (sSet 13 (eArgs oTuple (aCons (fL (aComp (aItems (eBin oIx (eVar 3) (eC (.int 2)))) (.nm 14) tYesF (eArgs oTuple (aCons (eVar 14) aNil)))) aNil)))
    (sRet (eBin oEq (eTup (aCons (e1o (oFld 0 0) (eVar 5)) (aCons (e1o (oFld 0 1) (eVar 5)) (aCons (e1o (oFld 0 2) (eVar 5)) aNil)))) (eTup (aCons (eArgs oTuple (aCons (eBin oIx (eVar 3) (eC (.int 0))) aNil)) (aCons (eArgs oTuple (aCons (eBin oIx (eVar 3) (eC (.int 1))) aNil)) (aCons (eVar 13) aNil)))))))))))))))) [.sh (.fl (ns.map .int)), .sh (.lst [.int d0, .int d1, .int d2, .int d3, .int d4, .int d5, .int d6, .int 8, .int m8]), .sh (.int m8), .no, .no, .no, .no, .no, .no, .no, .no, .no, .no, .no, .no, .no, .no]) := by
      unfold F_law runF m_law
      rw [show startR 17 [D.fl (List.map D.int ns)] = [.sh (.fl (ns.map .int)), .no, .no, .no, .no, .no, .no, .no, .no, .no, .no, .no, .no, .no, .no, .no, .no] from rfl]
      rw [sSeq_x, show ∀ F : Sf, (sSet 1 (eCall digits2F (aCons (eCall cellF (aCons (eVar 0) (aCons (eC (.int 0)) aNil))) (aCons (fL (aLst (aCons (eC (.int 2)) (aCons (eC (.int 11)) (aCons (eC (.int 4)) (aCons (eC (.int 2)) (aCons (eC (.int 4)) (aCons (eC (.int 2)) (aCons (eC (.int 11)) (aCons (eC (.int 9)) (aCons (eC (.int 41)) aNil))))))))))) aNil))) [.sh (.fl (ns.map .int)), .no, .no, .no, .no, .no, .no, .no, .no, .no, .no, .no, .no, .no, .no, .no, .no]).next F = F [.sh (.fl (ns.map .int)), .sh (.lst [.int d0, .int d1, .int d2, .int d3, .int d4, .int d5, .int d6, .int 8, .int m8]), .no, .no, .no, .no, .no, .no, .no, .no, .no, .no, .no, .no, .no, .no, .no] from fun F => by simp -implicitDefEqProofs [e0, f0]]
      rw [sSeq_x, show ∀ F : Sf, (sSet 2 (eBin oIx (fL (aLst (aCons (eBin oIx (eVar 1) (eC (.int 1))) (aCons (eBin oAdd (eC (.int 7)) (eBin oIx (eVar 1) (eC (.int 2)))) aNil)))) (eBin oIx (eVar 1) (eC (.int 0)))) [.sh (.fl (ns.map .int)), .sh (.lst [.int d0, .int d1, .int d2, .int d3, .int d4, .int d5, .int d6, .int 8, .int m8]), .no, .no, .no, .no, .no, .no, .no, .no, .no, .no, .no, .no, .no, .no, .no]).next F = F [.sh (.fl (ns.map .int)), .sh (.lst [.int d0, .int d1, .int d2, .int d3, .int d4, .int d5, .int d6, .int 8, .int m8]), .sh (.int m), .no, .no, .no, .no, .no, .no, .no, .no, .no, .no, .no, .no, .no, .no] from fun F => by simp -implicitDefEqProofs [ew]]
      rw [sSeq_x, show ∀ F : Sf, (sIf (tB1 (eBin oEq (eBin oIx (eVar 1) (eC (.int 7))) (eC (.int 8)))) (sSet 2 (eBin oIx (eVar 1) (eC (.int 8)))) sNext [.sh (.fl (ns.map .int)), .sh (.lst [.int d0, .int d1, .int d2, .int d3, .int d4, .int d5, .int d6, .int 8, .int m8]), .sh (.int m), .no, .no, .no, .no, .no, .no, .no, .no, .no, .no, .no, .no, .no, .no]).next F = F [.sh (.fl (ns.map .int)), .sh (.lst [.int d0, .int d1, .int d2, .int d3, .int d4, .int d5, .int d6, .int 8, .int m8]), .sh (.int m8), .no, .no, .no, .no, .no, .no, .no, .no, .no, .no, .no, .no, .no, .no] from fun F => by simp -implicitDefEqProofs]
    rw [u, t]
    rfl
  · have t := tail_ok ns d0 d1 d2 d3 d4 d5 d6 d7 (m8 : Int) (n := m) (by omega) b6.1
    have u : F_law [.fl (ns.map D.int)] = retOf ((sSeq (sSet 3 (eCall graphF (aCons (eVar 0) (aCons (eC (.int 3)) (aCons (eVar 2) (aCons (eC (.int 30)) aNil))))))
    (sSeq (sSet 4 (eCall F_law_sets (aCons (eVar 0) (aCons (eC (.int 1)) (aCons (eVar 2) aNil)))))
    (sSeq (sSet 5 (fW (aMake 0 Game_initF (aCons (fL (aArgs oList (aCons (eBin oIx (eVar 3) (eC (.int 0))) aNil))) (aCons (fL (aArgs oList (aCons (eBin oIx (eVar 3) (eC (.int 1))) aNil))) (aCons (fL (aComp (aItems (eBin oIx (eVar 3) (eC (.int 2)))) (.nm 14) tYesF (fL (aArgs oList (aCons (eVar 14) aNil))))) aNil))))))
    (sSeq (sSet 6 (fL (aLst (aCons (eVar 5) (aCons (fW (aMake 0 Game_initF (aCons (fL (aComp (aItems (eBin oIx (eVar 3) (eC (.int 0)))) (.nm 15) tYesF (eBin oSub (eC (.int 1)) (eVar 15)))) (aCons (fL (aArgs oList (aCons (eBin oIx (eVar 3) (eC (.int 1))) aNil))) (aCons (fL (aComp (aItems (eBin oIx (eVar 3) (eC (.int 2)))) (.nm 14) tYesF (fL (aArgs oList (aCons (eVar 14) aNil))))) aNil))))) aNil)))))
    (sSeq (sSet 7 (eCall F_law_numbers (aCons (eVar 3) (aCons (eBin oIx (eVar 1) (eC (.int 3))) (aCons (eBin oIx (eVar 4) (eC (.int 0))) (aCons (eBin oIx (eVar 4) (eC (.int 1))) aNil))))))
    (sSeq (sSetF 8 (aComp (aRng1 (aCons (eVar 2) aNil)) (.nm 12) tYesF (eAnd (eBin oIx (eBin oIx (eVar 4) (eC (.int 1))) (eVar 12)) (eBin oIsN (eBin oIx (eVar 7) (eVar 12)) (eC .non)))))
    (sSeq (sIf (tAndF (tB1 (eBin oEq (eBin oIx (eVar 1) (eC (.int 5))) (eC (.int 1)))) (tB1 (eBin oLt (eBin oIx (eVar 1) (eC (.int 6))) (eVar 2))))
    (sSeq (sSet 9 (eBin oIx (eVar 1) (eC (.int 6))))
    (sSto 8 (eVar 9) (eAnd (eBin oIx (eBin oIx (eVar 4) (eC (.int 1))) (eVar 9)) (e1o oNot (eBin oIx (eOwn 8) (eVar 9))))))
    sNext)
    (sSeq (sSet 10 (fL (aComp (aRng1 (aCons (eVar 2) aNil)) (.nm 12) tYesF (eC (.bl false)))))
    (sSeq (sFor (aItems (fL (aLst (aCons (eC (.int 0)) (aCons (eC (.int 1)) (aCons (eC (.int 0)) aNil)))))) (.nm 11)
    (sSeq (sFrz 8 (sIf (tOrF (tNotF (tB1 (eCall F_law_right (aCons (eVar 6) (aCons (eVar 3) (aCons (eVar 11) (aCons (eVar 8) (aCons (eBin oIx (eVar 4) (eC (.int 1))) (aCons (eBin oIx (eVar 1) (eC (.int 4))) aNil))))))))) (tNotF (tB1 (eCall F_law_right (aCons (eVar 6) (aCons (eVar 3) (aCons (eVar 11) (aCons (eVar 10) (aCons (eBin oIx (eVar 4) (eC (.int 1))) (aCons (eBin oIx (eVar 1) (eC (.int 4))) aNil))))))))))
    (sRet (eC (.bl false)))
    sNext))
    (sSeq (sIf (tNotF (tB1 (eCall F_law_right (aCons (eVar 6) (aCons (eVar 3) (aCons (eVar 11) (aCons (eBin oIx (eVar 4) (eC (.int 1))) (aCons (eBin oIx (eVar 4) (eC (.int 1))) (aCons (eBin oAdd (eBin oIx (eVar 1) (eC (.int 4))) (eC (.int 1))) aNil)))))))))
    (sRet (eC (.bl false)))
    sNext)
    (sFor (aItems (fL (aBin oCatL (fL (aLR1 (eArgs oMin2 (aCons (eVar 2) (aCons (eC (.int 10)) aNil))))) (fL (aLR2 (eArgs oMax2 (aCons (eC (.int 10)) (aCons (eBin oSub (eVar 2) (eC (.int 1))) aNil))) (eVar 2)))))) (.nm 12)
    (sIf (tAndF (tB1 (eBin oIx (eBin oIx (eVar 4) (eC (.int 1))) (eVar 12))) (tNotF (tB1 (eCall F_law_right (aCons (eVar 6) (aCons (eVar 3) (aCons (eVar 11) (aCons (fL (aComp (aRng1 (aCons (eVar 2) aNil)) (.nm 16) tYesF (eBin oEq (eVar 16) (eVar 12)))) (aCons (eBin oIx (eVar 4) (eC (.int 1))) (aCons (eBin oAdd (eBin oIx (eVar 1) (eC (.int 4))) (eVar 12)) aNil))))))))))
    (sRet (eC (.bl false)))
    sNext)))))
    (sSeq (sSet 13 (eArgs oTuple (aCons (fL (aComp (aItems (eBin oIx (eVar 3) (eC (.int 2)))) (.nm 14) tYesF (eArgs oTuple (aCons (eVar 14) aNil)))) aNil)))
    (sRet (eBin oEq (eTup (aCons (e1o (oFld 0 0) (eVar 5)) (aCons (e1o (oFld 0 1) (eVar 5)) (aCons (e1o (oFld 0 2) (eVar 5)) aNil)))) (eTup (aCons (eArgs oTuple (aCons (eBin oIx (eVar 3) (eC (.int 0))) aNil)) (aCons (eArgs oTuple (aCons (eBin oIx (eVar 3) (eC (.int 1))) aNil)) (aCons (eVar 13) aNil)))))))))))))))) [.sh (.fl (ns.map .int)), .sh (.lst [.int d0, .int d1, .int d2, .int d3, .int d4, .int d5, .int d6, .int d7, .int m8]), .sh (.int m), .no, .no, .no, .no, .no, .no, .no, .no, .no, .no, .no, .no, .no, .no]) := by
      unfold F_law runF m_law
      rw [show startR 17 [D.fl (List.map D.int ns)] = [.sh (.fl (ns.map .int)), .no, .no, .no, .no, .no, .no, .no, .no, .no, .no, .no, .no, .no, .no, .no, .no] from rfl]
      rw [sSeq_x, show ∀ F : Sf, (sSet 1 (eCall digits2F (aCons (eCall cellF (aCons (eVar 0) (aCons (eC (.int 0)) aNil))) (aCons (fL (aLst (aCons (eC (.int 2)) (aCons (eC (.int 11)) (aCons (eC (.int 4)) (aCons (eC (.int 2)) (aCons (eC (.int 4)) (aCons (eC (.int 2)) (aCons (eC (.int 11)) (aCons (eC (.int 9)) (aCons (eC (.int 41)) aNil))))))))))) aNil))) [.sh (.fl (ns.map .int)), .no, .no, .no, .no, .no, .no, .no, .no, .no, .no, .no, .no, .no, .no, .no, .no]).next F = F [.sh (.fl (ns.map .int)), .sh (.lst [.int d0, .int d1, .int d2, .int d3, .int d4, .int d5, .int d6, .int d7, .int m8]), .no, .no, .no, .no, .no, .no, .no, .no, .no, .no, .no, .no, .no, .no, .no] from fun F => by simp -implicitDefEqProofs [e0, f0]]
      rw [sSeq_x, show ∀ F : Sf, (sSet 2 (eBin oIx (fL (aLst (aCons (eBin oIx (eVar 1) (eC (.int 1))) (aCons (eBin oAdd (eC (.int 7)) (eBin oIx (eVar 1) (eC (.int 2)))) aNil)))) (eBin oIx (eVar 1) (eC (.int 0)))) [.sh (.fl (ns.map .int)), .sh (.lst [.int d0, .int d1, .int d2, .int d3, .int d4, .int d5, .int d6, .int d7, .int m8]), .no, .no, .no, .no, .no, .no, .no, .no, .no, .no, .no, .no, .no, .no, .no]).next F = F [.sh (.fl (ns.map .int)), .sh (.lst [.int d0, .int d1, .int d2, .int d3, .int d4, .int d5, .int d6, .int d7, .int m8]), .sh (.int m), .no, .no, .no, .no, .no, .no, .no, .no, .no, .no, .no, .no, .no, .no] from fun F => by simp -implicitDefEqProofs [ew]]
      rw [sSeq_x, show ∀ F : Sf, (sIf (tB1 (eBin oEq (eBin oIx (eVar 1) (eC (.int 7))) (eC (.int 8)))) (sSet 2 (eBin oIx (eVar 1) (eC (.int 8)))) sNext [.sh (.fl (ns.map .int)), .sh (.lst [.int d0, .int d1, .int d2, .int d3, .int d4, .int d5, .int d6, .int d7, .int m8]), .sh (.int m), .no, .no, .no, .no, .no, .no, .no, .no, .no, .no, .no, .no, .no, .no]).next F = F [.sh (.fl (ns.map .int)), .sh (.lst [.int d0, .int d1, .int d2, .int d3, .int d4, .int d5, .int d6, .int d7, .int m8]), .sh (.int m), .no, .no, .no, .no, .no, .no, .no, .no, .no, .no, .no, .no, .no, .no] from fun F => by simp -implicitDefEqProofs [h7]]
    rw [u, t]
    rfl
end Lw

namespace Lw
open PySem PySem.Spec PyProof.Rows L2 Fw

theorem walk {l : PySem.W.OpenLaw} {q : Program} {loose : List Str} {XP : (Str → Option Value) → Heap → Prop} {YP : World → Heap → Prop} {d : DefRec} {K : Params → PySem.W.Frag} (hn : l.most = some 63) (hdf : d.params.defaults = [])
    (hY : ∀ (w : World) (h : Heap), YP w h → (K w.params).In h)
    (F : ∀ (w : World) (mg : Str → Option Value) (fa : Addr) (h : Heap), (K w.params).In h → h.Ns mainGlobals mg → mg d.name = some (.ref fa) →
      ∃ (cl : Nat → ClsT) (fd : FuncData), (∀ (s : Shared) (u : Value), BindsTo s fd ⟨[u], []⟩ [("script", u)]) ∧ ∀ base : Heap, (K w.params).In base → base.Ns mainGlobals mg → FnOk l.prog w (K w.params) mg base CX0 8 fa fd ["script"] (spF (K w.params) cl 1 F_law)) :
    PySem.W.WalkO q loose XP YP l.row.toRowW d [] (fun f vs => PySem.call f vs) :=
  L2.walk_of (n := 63) (k := 8) (x := "script") (CX := fun _ => CX0) (sp := fun w => spLaw (K w.params)) hn (by decide) hdf ⟨rfl, by decide, by decide⟩ hY (fun w mg fa h h1 h2 h3 => by
    obtain ⟨cl, fd, b, k⟩ := F w mg fa h h1 h2 h3
    exact ⟨fd, b, fun base h4 h5 => law_spec law_holds (k base h4 h5)⟩) (fun _ _ a ns hl _ hS => ⟨a, ns, rfl, hS, hl, fun _ => rfl⟩) fun _ _ _ _ _ z => z
end Lw
open PySem PySem.W PyProof.Rows
set_option maxRecDepth 100000 in
set_option maxHeartbeats 0 in
theorem PySem.Challenge.cw_holdsalltrees_k35_traps_holds : PySem.Challenge.rw_holdsalltrees_k35_traps.Holds := by
  w_on; o_law; k_head; (case hw => w_witness2)
  k_fill
  refine Lw.walk (l := PySem.Challenge.rw_holdsalltrees_k35_traps) rfl rfl (fun w h Y => PySem.W.kIn_of Y) ?F
  case F =>
    intro w mg fa h KX G hmg
    refine' Lw.all_mk KX G hmg ?aC0 ?pg0 ?hd0 ?po0 ?sa0 ?nf0_0 ?nf0_1 ?nf0_2 ?nf0_3 ?a1 ?l1 ?c1 ?k1 ?a2 ?i2 ?l2 ?c2 ?k2 ?a3 ?l3 ?c3 ?k3 ?a4 ?l4 ?w4 ?c4 ?k4 ?a5 ?l5 ?c5 ?k5 ?a6 ?l6 ?c6 ?k6 ?a7 ?l7 ?c7 ?k7 ?a8 ?l8 ?c8 ?k8 ?a9 ?g9 ?t9 ?r9 ?l9 ?c9 ?k9 ?mk0 ?a10 ?i10 ?kc0 ?l10 ?c10 ?k10 ?a11 ?l11 ?c11 ?k11 ?a12 ?l12 ?c12 ?k12 ?a13 ?l13 ?c13 ?k13 ?a14 ?l14 ?c14 ?k14 ?a15 ?l15 ?c15 ?k15 ?a16 ?l16 ?c16 ?k16 ?a17 ?l17 ?c17 ?k17 ?a18 ?l18 ?c18 ?k18 ?a19 ?l19 ?c19 ?k19 ?z_len ?z_int ?z_bool ?z_str ?z_range ?z_isinstance ?z_tuple ?z_list ?z_dict ?z_set ?z_max ?z_min ?z_sum ?z_any ?z_all ?z_sorted ?z_enumerate ?z_zip ?z_reversed ?z_repr
    (case aC0 => k_is)
    (case pg0 => k_is)
    (case hd0 => k_is)
    (case po0 => k_is)
    (case sa0 => k_is)
    (case nf0_0 => k_is)
    (case nf0_1 => k_is)
    (case nf0_2 => k_is)
    (case nf0_3 => k_is)
    (case a1 => k_is)
    (case l1 => k_is)
    (case c1 => k_is)
    (case k1 => k_is)
    (case a2 => k_is)
    (case i2 => k_is)
    (case l2 => k_is)
    (case c2 => k_is)
    (case k2 => k_is)
    (case a3 => k_is)
    (case l3 => k_is)
    (case c3 => k_is)
    (case k3 => k_is)
    (case a4 => k_is)
    (case l4 => k_is)
    (case w4 => k_is)
    (case c4 => k_is)
    (case k4 => k_is)
    (case a5 => k_is)
    (case l5 => k_is)
    (case c5 => k_is)
    (case k5 => k_is)
    (case a6 => k_is)
    (case l6 => k_is)
    (case c6 => k_is)
    (case k6 => k_is)
    (case a7 => k_is)
    (case l7 => k_is)
    (case c7 => k_is)
    (case k7 => k_is)
    (case a8 => k_is)
    (case l8 => k_is)
    (case c8 => k_is)
    (case k8 => k_is)
    (case a9 => k_is)
    (case g9 => k_is)
    (case t9 => k_is)
    (case r9 => k_is)
    (case l9 => k_is)
    (case c9 => k_is)
    (case k9 => k_is)
    (case mk0 => k_is)
    (case a10 => k_is)
    (case i10 => k_is)
    (case kc0 => k_is)
    (case l10 => k_is)
    (case c10 => k_is)
    (case k10 => k_is)
    (case a11 => k_is)
    (case l11 => k_is)
    (case c11 => k_is)
    (case k11 => k_is)
    (case a12 => k_is)
    (case l12 => k_is)
    (case c12 => k_is)
    (case k12 => k_is)
    (case a13 => k_is)
    (case l13 => k_is)
    (case c13 => k_is)
    (case k13 => k_is)
    (case a14 => k_is)
    (case l14 => k_is)
    (case c14 => k_is)
    (case k14 => k_is)
    (case a15 => k_is)
    (case l15 => k_is)
    (case c15 => k_is)
    (case k15 => k_is)
    (case a16 => k_is)
    (case l16 => k_is)
    (case c16 => k_is)
    (case k16 => k_is)
    (case a17 => k_is)
    (case l17 => k_is)
    (case c17 => k_is)
    (case k17 => k_is)
    (case a18 => k_is)
    (case l18 => k_is)
    (case c18 => k_is)
    (case k18 => k_is)
    (case a19 => k_is)
    (case l19 => k_is)
    (case c19 => k_is)
    (case k19 => k_is)
    (case z_len => k_is)
    (case z_int => k_is)
    (case z_bool => k_is)
    (case z_str => k_is)
    (case z_range => k_is)
    (case z_isinstance => k_is)
    (case z_tuple => k_is)
    (case z_list => k_is)
    (case z_dict => k_is)
    (case z_set => k_is)
    (case z_max => k_is)
    (case z_min => k_is)
    (case z_sum => k_is)
    (case z_any => k_is)
    (case z_all => k_is)
    (case z_sorted => k_is)
    (case z_enumerate => k_is)
    (case z_zip => k_is)
    (case z_reversed => k_is)
    (case z_repr => k_is)
