import PyProof.Rows.All
import Wide.All
import OpenK.AllK
import Wide.FinOn
import HandS.ForMost
import HandS.IsInst
import HandS.Flow
import HandS.Style
import HandS.Exc
import HandS.ExcOwn
import HandS.ExcField
import HandS.TryOnly
import HandS.ExcInit
import HandS.ExcValue
import HandS.ForExc
import HandS.TupAny
import HandS.TupMul
import HandS.Zip
import HandS.SortInts
import HandS.Conv
import HandS.Defaults
import HandS.Property
import HandS.SortKw
import HandS.Ends
import HandS.MakeKwOnly
import HandS.WordsDict
import HandS.WideBits
import HandS.SetFor
import HandS.More
import HandS.Rev
import HandS.Iter
import KE.GoesMore
import PyProof.ReprRoads
import HandS.GenList
import HandS.ExcCtx
import HandS.ExcIs
import HandS.HotCalls
import KE.KExcIs
import HandS.Strs
import HandS.TupLe
import KE.KDictCopyH
import HandS.Gcd
import HandS.Flt
import KE.KMathGC
import PySem.Challenge.RW_holdsalltrees_k11_sizes_and_bounds
set_option Elab.async false
set_option linter.all false
set_option maxRecDepth 100000
set_option maxHeartbeats 4000000
namespace Fw
open PySem PySem.Spec PyProof.Rows L2
/-- a class of the text: where it stands, its attributes in the order of __init__ -/
structure ClsT where
  addr : Addr
  names : List Str
/-- pure data -/
inductive D where
  | non | bl (b : Bool) | int (i : Int) | str (x : Str)
  | tup (ds : List D) | lst (ds : List D) | fl (ds : List D)
  | ins (c : Nat) (ds : List D)
  | dic (ks : List Key) (ds : List D)
  | ty (n : String)
  /-- an exception that is held as a value -/
  | exn (c : Nat) (ds : List D)
/-- a tuple: tracked, or one of the written part -/
def TupAt (K : PySem.W.Frag) (H : Hp) (a : Addr) (xs : List V) : Prop :=
  H a = some (.tup xs) ∨
    ∃ (o : Obj) (its : Array Value) (n : Nat), K.lookup a = some o ∧ o.cls = .type "tuple" ∧ o.data = .seq its n ∧ its.size ≤ sizeLine ∧ Vals xs its.toList
theorem TupAt.sq {K : PySem.W.Frag} {H : Hp} {a : Addr} {xs : List V} (h : TupAt K H a xs) : SqT K H a xs := h.elim (fun z => .inl (.inl z)) .inr
theorem TupAt.mono {K : PySem.W.Frag} {H H' : Hp} {a : Addr} {xs : List V} (e : Same H H') (h : TupAt K H a xs) : TupAt K H' a xs := h.elim (fun z => .inl (e _ _ z)) .inr
mutual
/-- v denotes d, in the stable heap H -/
def Den (K : PySem.W.Frag) (cl : Nat → ClsT) (H : Hp) : D → V → Prop
  | .non, v => v = .non
  | .bl b, v => v = .bl b
  | .int i, v => v = .int i
  | .str x, v => v = .str x
  | .ty n, v => v = .ty n
  | .tup ds, v => ∃ a vs, v = .ref a ∧ TupAt K H a vs ∧ Dens K cl H ds vs
  | .lst ds, v => ∃ a vs, v = .ref a ∧ H a = some (.lst vs) ∧ Dens K cl H ds vs
  | .fl ds, v => ∃ a vs, v = .ref a ∧ SqL K H a vs ∧ Dens K cl H ds vs
  | .ins c ds, v => ∃ a dx vs, v = .ref a ∧ H a = some (.ins (cl c).addr dx ((cl c).names.zip vs)) ∧ Dens K cl H ds vs
  | .dic ks ds, v => ∃ a vs, v = .ref a ∧ H a = some (.dK (ks.zip vs)) ∧ ks.length = ds.length ∧ Dens K cl H ds vs
  | .exn c ds, v => (ds ≠ [] ∧ ∃ a dd vs, v = .ref a ∧ H a = some (exo a (cl c).addr (some dd)) ∧ H dd = some (exd dd ((cl c).names.zip vs)) ∧ Dens K cl H ds vs) ∨ (ds = [] ∧ ∃ a, v = .ref a ∧ H a = some (ExO (.ref (cl c).addr) a))
def Dens (K : PySem.W.Frag) (cl : Nat → ClsT) (H : Hp) : List D → List V → Prop
  | [], vs => vs = []
  | d :: ds, vs => ∃ v r, vs = v :: r ∧ Den K cl H d v ∧ Dens K cl H ds r
end
/-- observed: a list may stand outside the stable heap -/
def Obs (K : PySem.W.Frag) (cl : Nat → ClsT) (G H : Hp) : D → V → Prop
  | .lst ds, v => ∃ a vs, v = .ref a ∧ H a = some (.lst vs) ∧ Dens K cl G ds vs
  | .ins c ds, v => ∃ a dx vs, v = .ref a ∧ H a = some (.ins (cl c).addr dx ((cl c).names.zip vs)) ∧ Dens K cl G ds vs
  | .dic ks ds, v => ∃ a vs, v = .ref a ∧ H a = some (.dK (ks.zip vs)) ∧ ks.length = ds.length ∧ Dens K cl G ds vs
  | d, v => Den K cl G d v
theorem same_seqT {K : PySem.W.Frag} {H H' : Hp} {a : Addr} {xs : List V} (e : Same H H') (h : SqT K H a xs) : SqT K H' a xs := by
  rcases h with (h | ⟨o, h⟩) | h
  · exact .inl (.inl (e _ _ h))
  · exact .inl (.inr ⟨o, e _ _ h⟩)
  · exact .inr h
section
variable {K : PySem.W.Frag} {cl : Nat → ClsT} {G G' H H' : Hp}
mutual
theorem Den.mono (h : Same H H') : ∀ (d : D) (v : V), Den K cl H d v → Den K cl H' d v
  | .non, _, q => by simpa only [Den] using q
  | .bl b, _, q => by simpa only [Den] using q
  | .int i, _, q => by simpa only [Den] using q
  | .str x, _, q => by simpa only [Den] using q
  | .ty n, _, q => by simpa only [Den] using q
  | .tup ds, v, q => by
    simp only [Den] at q ⊢
    obtain ⟨a, vs, e, s, r⟩ := q
    exact ⟨a, vs, e, s.mono h, Dens.mono h ds vs r⟩
  | .lst ds, v, q => by
    simp only [Den] at q ⊢
    obtain ⟨a, vs, e, s, r⟩ := q
    exact ⟨a, vs, e, h _ _ s, Dens.mono h ds vs r⟩
  | .fl ds, v, q => by
    simp only [Den] at q ⊢
    obtain ⟨a, vs, e, s, r⟩ := q
    exact ⟨a, vs, e, h.seq s, Dens.mono h ds vs r⟩
  | .ins c ds, v, q => by
    simp only [Den] at q ⊢
    obtain ⟨a, dx, vs, e, s, r⟩ := q
    exact ⟨a, dx, vs, e, h _ _ s, Dens.mono h ds vs r⟩
  | .dic ks ds, v, q => by
    simp only [Den] at q ⊢
    obtain ⟨a, vs, e, s, l, r⟩ := q
    exact ⟨a, vs, e, h _ _ s, l, Dens.mono h ds vs r⟩
  | .exn c ds, v, q => by
    simp only [Den] at q ⊢
    rcases q with ⟨n0, a, dd, vs, e, s, s2, r⟩ | ⟨e0, a, e, s⟩
    · exact .inl ⟨n0, a, dd, vs, e, h _ _ s, h _ _ s2, Dens.mono h ds vs r⟩
    · exact .inr ⟨e0, a, e, h _ _ s⟩
theorem Dens.mono (h : Same H H') : ∀ (ds : List D) (vs : List V), Dens K cl H ds vs → Dens K cl H' ds vs
  | [], _, q => by simpa only [Dens] using q
  | d :: ds, vs, q => by
    simp only [Dens] at q ⊢
    obtain ⟨v, r, e, q1, q2⟩ := q
    exact ⟨v, r, e, Den.mono h d v q1, Dens.mono h ds r q2⟩
end
theorem Dens.length : ∀ {ds : List D} {vs : List V}, Dens K cl H ds vs → vs.length = ds.length
  | [], _, q => by
    simp only [Dens] at q
    rw [q]
    rfl
  | d :: ds, vs, q => by
    simp only [Dens] at q
    obtain ⟨v, r, e, _, q2⟩ := q
    rw [e, List.length_cons, List.length_cons, Dens.length q2]
theorem Dens.get : ∀ {ds : List D} {vs : List V} {i : Nat} {v : V}, Dens K cl H ds vs → vs[i]? = some v → ∃ d, ds[i]? = some d ∧ Den K cl H d v
  | [], _, i, v, q, e => by
    simp only [Dens] at q
    rw [q] at e
    simp at e
  | d :: ds, vs, 0, v, q, e => by
    simp only [Dens] at q
    obtain ⟨u, r, rfl, q1, _⟩ := q
    cases (show some u = some v from e)
    exact ⟨d, rfl, q1⟩
  | d :: ds, vs, i + 1, v, q, e => by
    simp only [Dens] at q
    obtain ⟨u, r, rfl, _, q2⟩ := q
    obtain ⟨d', e1, e2⟩ := Dens.get (i := i) (v := v) q2 (by simpa using e)
    exact ⟨d', by simpa using e1, e2⟩
theorem Dens.get' : ∀ {ds : List D} {vs : List V} {i : Nat} {d : D}, Dens K cl H ds vs → ds[i]? = some d → ∃ v, vs[i]? = some v ∧ Den K cl H d v := fun {ds vs i d} q e => by
  have hi : i < ds.length := (List.getElem?_eq_some_iff.mp e).1
  have hi' : i < vs.length := by rw [q.length]; exact hi
  obtain ⟨d', e1, e2⟩ := q.get (List.getElem?_eq_getElem hi')
  rw [e] at e1
  cases e1
  exact ⟨_, List.getElem?_eq_getElem hi', e2⟩
theorem Dens.nil : Dens K cl H [] [] := by simp only [Dens]
theorem Dens.cons {d : D} {ds : List D} {v : V} {vs : List V} (h : Den K cl H d v) (t : Dens K cl H ds vs) : Dens K cl H (d :: ds) (v :: vs) := by
  simp only [Dens]
  exact ⟨v, vs, rfl, h, t⟩
theorem Dens.append : ∀ {ds es : List D} {vs us : List V}, Dens K cl H ds vs → Dens K cl H es us → Dens K cl H (ds ++ es) (vs ++ us)
  | [], _, _, _, q, r => by
    simp only [Dens] at q
    rw [q]
    exact r
  | d :: ds, es, vs, us, q, r => by
    simp only [Dens] at q
    obtain ⟨v, t, rfl, q1, q2⟩ := q
    exact Dens.cons q1 (Dens.append q2 r)
theorem Dens.take : ∀ {ds : List D} {vs : List V} (n : Nat), Dens K cl H ds vs → Dens K cl H (ds.take n) (vs.take n)
  | ds, vs, 0, _ => by
    rw [List.take_zero, List.take_zero]
    exact Dens.nil
  | [], _, n + 1, q => by
    simp only [Dens] at q
    rw [q]
    exact Dens.nil
  | d :: ds, _, n + 1, q => by
    simp only [Dens] at q
    obtain ⟨v, t, rfl, q1, q2⟩ := q
    exact Dens.cons q1 (Dens.take n q2)
theorem Dens.drop : ∀ {ds : List D} {vs : List V} (n : Nat), Dens K cl H ds vs → Dens K cl H (ds.drop n) (vs.drop n)
  | _, _, 0, q => q
  | [], _, n + 1, q => by
    simp only [Dens] at q
    rw [q]
    exact Dens.nil
  | d :: ds, _, n + 1, q => by
    simp only [Dens] at q
    obtain ⟨v, t, rfl, q1, q2⟩ := q
    exact Dens.drop n q2
theorem Dens.set : ∀ {ds : List D} {vs : List V} {d : D} {v : V} (n : Nat), Dens K cl H ds vs → Den K cl H d v → Dens K cl H (ds.set n d) (vs.set n v)
  | [], _, _, _, n, q, _ => by
    simp only [Dens] at q
    rw [q]
    exact Dens.nil
  | d :: ds, _, _, _, 0, q, r => by
    simp only [Dens] at q
    obtain ⟨v, t, rfl, q1, q2⟩ := q
    exact Dens.cons r q2
  | d :: ds, _, _, _, n + 1, q, r => by
    simp only [Dens] at q
    obtain ⟨v, t, rfl, q1, q2⟩ := q
    exact Dens.cons q1 (Dens.set n q2 r)
theorem Dens.reverse : ∀ {ds : List D} {vs : List V}, Dens K cl H ds vs → Dens K cl H ds.reverse vs.reverse
  | [], _, q => by
    simp only [Dens] at q
    rw [q]
    exact Dens.nil
  | d :: ds, _, q => by
    simp only [Dens] at q
    obtain ⟨v, t, rfl, q1, q2⟩ := q
    rw [List.reverse_cons, List.reverse_cons]
    exact Dens.append (Dens.reverse q2) (Dens.cons q1 Dens.nil)
theorem Obs.of (hs : Same G H) {d : D} {v : V} (h : Den K cl G d v) : Obs K cl G H d v := by
  cases d with
  | lst ds =>
    simp only [Den] at h
    obtain ⟨a, vs, e, s, r⟩ := h
    exact ⟨a, vs, e, hs _ _ s, r⟩
  | ins c ds =>
    simp only [Den] at h
    obtain ⟨a, dx, vs, e, s, r⟩ := h
    exact ⟨a, dx, vs, e, hs _ _ s, r⟩
  | dic ks ds =>
    simp only [Den] at h
    obtain ⟨a, vs, e, s, l, r⟩ := h
    exact ⟨a, vs, e, hs _ _ s, l, r⟩
  | _ => exact h
theorem Obs.mono (hg : Same G G') (hh : Same H H') {d : D} {v : V} (h : Obs K cl G H d v) : Obs K cl G' H' d v := by
  cases d with
  | lst ds =>
    obtain ⟨a, vs, e, s, r⟩ := h
    exact ⟨a, vs, e, hh _ _ s, r.mono hg⟩
  | ins c ds =>
    obtain ⟨a, dx, vs, e, s, r⟩ := h
    exact ⟨a, dx, vs, e, hh _ _ s, r.mono hg⟩
  | dic ks ds =>
    obtain ⟨a, vs, e, s, l, r⟩ := h
    exact ⟨a, vs, e, hh _ _ s, l, r.mono hg⟩
  | _ => exact Den.mono hg _ _ h
/-- a whole observed value, read in the whole heap -/
theorem Obs.den (hs : Same G H) {d : D} {v : V} (h : Obs K cl G H d v) : Den K cl H d v := by
  cases d with
  | lst ds =>
    obtain ⟨a, vs, e, s, r⟩ := h
    simp only [Den]
    exact ⟨a, vs, e, s, r.mono hs⟩
  | ins c ds =>
    obtain ⟨a, dx, vs, e, s, r⟩ := h
    simp only [Den]
    exact ⟨a, dx, vs, e, s, r.mono hs⟩
  | dic ks ds =>
    obtain ⟨a, vs, e, s, l, r⟩ := h
    simp only [Den]
    exact ⟨a, vs, e, s, l, r.mono hs⟩
  | _ => exact Den.mono hs _ _ h
end
/-- nothing tracked changes; the stable part grows by new objects alone -/
structure Grow (H G H' G' : Hp) : Prop where
  hh : Same H H'
  gg : Same G G'
  sub : Same G' H'
  new : ∀ b, G' b ≠ none → G b ≠ none ∨ H b = none
theorem Grow.refl {H G : Hp} (s : Same G H) : Grow H G H G := ⟨Same.refl _, Same.refl _, s, fun _ h => .inl h⟩
theorem Grow.trans {H G H1 G1 H2 G2 : Hp} (a : Grow H G H1 G1) (b : Grow H1 G1 H2 G2) : Grow H G H2 G2 :=
  ⟨a.hh.trans b.hh, a.gg.trans b.gg, b.sub, fun c hc => (b.new c hc).elim (fun z => a.new c z) fun z => .inr (a.hh.free z)⟩
theorem same_upd {H : Hp} {p : Addr} {o : HO} (h : H p = none) : Same H (upd H p o) := fun b x e => by
  rw [upd_ne (ne_of_none e h)]
  exact e
/-- a new object, stable -/
theorem Grow.laid {H G : Hp} {p : Addr} {o : HO} (s : Same G H) (h : H p = none) : Grow H G (upd H p o) (upd G p o) := by
  have hg : G p = none := s.free h
  refine ⟨same_upd h, same_upd hg, fun b x e => ?_, fun b hb => ?_⟩
  · by_cases q : b = p
    · subst q
      rw [upd_same] at e ⊢
      exact e
    · rw [upd_ne q] at e ⊢
      exact s _ _ e
  · by_cases q : b = p
    · exact .inr (q ▸ h)
    · rw [upd_ne q] at hb
      exact .inl hb
/-- a new object, not stable (owned) -/
theorem Grow.laidO {H G : Hp} {p : Addr} {o : HO} (s : Same G H) (h : H p = none) : Grow H G (upd H p o) G :=
  ⟨same_upd h, Same.refl _, s.trans (same_upd h), fun b hb => .inl hb⟩
inductive Ow where
  | lst (ds : List D)
  | dic (ks : List Key) (ds : List D)
  | obj (c : Nat) (ds : List D)
def Ow.toD : Ow → D
  | .lst ds => .lst ds
  | .dic ks ds => .dic ks ds
  | .obj c ds => .ins c ds
/-- what stands there -/
def OwOk (K : PySem.W.Frag) (cl : Nat → ClsT) (G : Hp) : Ow → HO → Prop
  | .lst ds, o => ∃ vs, o = .lst vs ∧ Dens K cl G ds vs
  | .dic ks ds, o => ∃ vs, o = .dK (ks.zip vs) ∧ ks.length = ds.length ∧ Dens K cl G ds vs
  | .obj c ds, o => ∃ dx vs, o = .ins (cl c).addr dx ((cl c).names.zip vs) ∧ Dens K cl G ds vs
section
variable {K : PySem.W.Frag} {cl : Nat → ClsT} {G G' H : Hp} {o : Ow} {ho : HO} {a : Addr}
theorem OwOk.mono (s : Same G G') (h : OwOk K cl G o ho) : OwOk K cl G' o ho := by
  cases o with
  | lst ds =>
    obtain ⟨vs, e, q⟩ := h
    exact ⟨vs, e, q.mono s⟩
  | dic ks ds =>
    obtain ⟨vs, e, l, q⟩ := h
    exact ⟨vs, e, l, q.mono s⟩
  | obj c ds =>
    obtain ⟨dx, vs, e, q⟩ := h
    exact ⟨dx, vs, e, q.mono s⟩
theorem OwOk.den (h : OwOk K cl G o ho) (ha : G a = some ho) : Den K cl G o.toD (.ref a) := by
  cases o with
  | lst ds =>
    obtain ⟨vs, rfl, q⟩ := h
    simp only [Ow.toD, Den]
    exact ⟨a, vs, rfl, ha, q⟩
  | dic ks ds =>
    obtain ⟨vs, rfl, l, q⟩ := h
    simp only [Ow.toD, Den]
    exact ⟨a, vs, rfl, ha, l, q⟩
  | obj c ds =>
    obtain ⟨dx, vs, rfl, q⟩ := h
    simp only [Ow.toD, Den]
    exact ⟨a, dx, vs, rfl, ha, q⟩
end
theorem map_some2 {α β : Type} {o : Option α} {f : α → β} {b : β} (h : o.map f = some b) : ∃ a, o = some a ∧ f a = b := by
  cases o with
  | none => cases h
  | some a => exact ⟨a, rfl, Option.some.inj h⟩
theorem bind_some2 {α β : Type} {o : Option α} {f : α → Option β} {b : β} (h : o.bind f = some b) : ∃ a, o = some a ∧ f a = some b := by
  cases o with
  | none => cases h
  | some a => exact ⟨a, rfl, h⟩
inductive OT where
  | sh (d : D)
  | lst (xs : List OT)
  | dic (ks : List Key) (xs : List OT)
  | obj (c : Nat) (xs : List OT)
mutual
def OT.toD : OT → D
  | .sh d => d
  | .lst xs => .lst (OT.toDs xs)
  | .dic ks xs => .dic ks (OT.toDs xs)
  | .obj c xs => .ins c (OT.toDs xs)
def OT.toDs : List OT → List D
  | [] => []
  | x :: xs => x.toD :: OT.toDs xs
end
mutual
/-- v is the tree t, whose own objects stand at fp -/
def OAt (K : PySem.W.Frag) (cl : Nat → ClsT) (H G : Hp) : OT → V → List Addr → Prop
  | .sh d, v, fp => fp = [] ∧ Den K cl G d v
  | .lst xs, v, fp => ∃ a vs fs, v = .ref a ∧ H a = some (.lst vs) ∧ fp = a :: fs ∧ OAts K cl H G xs vs fs
  | .dic ks xs, v, fp => ∃ a vs fs, v = .ref a ∧ H a = some (.dK (ks.zip vs)) ∧ ks.length = xs.length ∧ fp = a :: fs ∧ OAts K cl H G xs vs fs
  | .obj c xs, v, fp => ∃ a dx vs fs, v = .ref a ∧ H a = some (.ins (cl c).addr dx ((cl c).names.zip vs)) ∧ xs.length = (cl c).names.length ∧ fp = a :: fs ∧ OAts K cl H G xs vs fs
def OAts (K : PySem.W.Frag) (cl : Nat → ClsT) (H G : Hp) : List OT → List V → List Addr → Prop
  | [], vs, fp => vs = [] ∧ fp = []
  | x :: xs, vs, fp => ∃ v r f1 f2, vs = v :: r ∧ fp = f1 ++ f2 ∧ OAt K cl H G x v f1 ∧ OAts K cl H G xs r f2
end
section
variable {K : PySem.W.Frag} {cl : Nat → ClsT} {G G' H H' : Hp}
mutual
theorem OAt.move (g : Same G G') : ∀ {t : OT} {v : V} {fp : List Addr}, OAt K cl H G t v fp → (∀ b ∈ fp, H' b = H b) → OAt K cl H' G' t v fp
  | .sh d, v, fp, h, _ => by
    simp only [OAt] at h ⊢
    exact ⟨h.1, h.2.mono g⟩
  | .lst xs, v, fp, h, e => by
    simp only [OAt] at h ⊢
    obtain ⟨a, vs, fs, h1, h2, h3, h4⟩ := h
    subst h3
    exact ⟨a, vs, fs, h1, (e a (List.mem_cons_self ..)).trans h2, rfl, OAts.move g h4 fun b hb => e b (List.mem_cons_of_mem _ hb)⟩
  | .dic ks xs, v, fp, h, e => by
    simp only [OAt] at h ⊢
    obtain ⟨a, vs, fs, h1, h2, h0, h3, h4⟩ := h
    subst h3
    exact ⟨a, vs, fs, h1, (e a (List.mem_cons_self ..)).trans h2, h0, rfl, OAts.move g h4 fun b hb => e b (List.mem_cons_of_mem _ hb)⟩
  | .obj c xs, v, fp, h, e => by
    simp only [OAt] at h ⊢
    obtain ⟨a, dx, vs, fs, h1, h2, h0, h3, h4⟩ := h
    subst h3
    exact ⟨a, dx, vs, fs, h1, (e a (List.mem_cons_self ..)).trans h2, h0, rfl, OAts.move g h4 fun b hb => e b (List.mem_cons_of_mem _ hb)⟩
theorem OAts.move (g : Same G G') : ∀ {ts : List OT} {vs : List V} {fp : List Addr}, OAts K cl H G ts vs fp → (∀ b ∈ fp, H' b = H b) → OAts K cl H' G' ts vs fp
  | [], vs, fp, h, _ => by
    simp only [OAts] at h ⊢
    exact h
  | x :: xs, vs, fp, h, e => by
    simp only [OAts] at h ⊢
    obtain ⟨v, r, f1, f2, h1, h2, h3, h4⟩ := h
    subst h2
    exact ⟨v, r, f1, f2, h1, rfl, OAt.move g h3 fun b hb => e b (List.mem_append_left _ hb), OAts.move g h4 fun b hb => e b (List.mem_append_right _ hb)⟩
end
mutual
theorem OAt.at : ∀ {t : OT} {v : V} {fp : List Addr}, OAt K cl H G t v fp → ∀ b ∈ fp, H b ≠ none
  | .sh d, v, fp, h, b, hb => by
    simp only [OAt] at h
    rw [h.1] at hb
    cases hb
  | .lst xs, v, fp, h, b, hb => by
    simp only [OAt] at h
    obtain ⟨a, vs, fs, h1, h2, h3, h4⟩ := h
    rw [h3] at hb
    rcases List.mem_cons.mp hb with rfl | hb
    · rw [h2]
      exact fun z => nomatch z
    · exact OAts.at h4 b hb
  | .dic ks xs, v, fp, h, b, hb => by
    simp only [OAt] at h
    obtain ⟨a, vs, fs, h1, h2, h0, h3, h4⟩ := h
    rw [h3] at hb
    rcases List.mem_cons.mp hb with rfl | hb
    · rw [h2]
      exact fun z => nomatch z
    · exact OAts.at h4 b hb
  | .obj c xs, v, fp, h, b, hb => by
    simp only [OAt] at h
    obtain ⟨a, dx, vs, fs, h1, h2, h0, h3, h4⟩ := h
    rw [h3] at hb
    rcases List.mem_cons.mp hb with rfl | hb
    · rw [h2]
      exact fun z => nomatch z
    · exact OAts.at h4 b hb
theorem OAts.at : ∀ {ts : List OT} {vs : List V} {fp : List Addr}, OAts K cl H G ts vs fp → ∀ b ∈ fp, H b ≠ none
  | [], vs, fp, h, b, hb => by
    simp only [OAts] at h
    rw [h.2] at hb
    cases hb
  | x :: xs, vs, fp, h, b, hb => by
    simp only [OAts] at h
    obtain ⟨v, r, f1, f2, h1, h2, h3, h4⟩ := h
    rw [h2] at hb
    exact (List.mem_append.mp hb).elim (OAt.at h3 b) (OAts.at h4 b)
end
theorem zip_right_inj {α β : Type} : ∀ {ks : List α} {vs us : List β}, vs.length = ks.length → us.length = ks.length → ks.zip vs = ks.zip us → vs = us
  | [], [], [], _, _, _ => rfl
  | k :: ks, v :: vs, u :: us, h1, h2, e => by
    rw [List.zip_cons_cons, List.zip_cons_cons] at e
    injection e with e1 e2
    injection e1 with _ e3
    rw [e3, zip_right_inj (by simpa using h1) (by simpa using h2) e2]
theorem OAts.length : ∀ {ts : List OT} {vs : List V} {fp : List Addr}, OAts K cl H G ts vs fp → vs.length = ts.length
  | [], vs, fp, h => by
    simp only [OAts] at h
    rw [h.1]
    rfl
  | x :: xs, vs, fp, h => by
    simp only [OAts] at h
    obtain ⟨v, r, f1, f2, h1, h2, h3, h4⟩ := h
    rw [h1, List.length_cons, List.length_cons, OAts.length h4]
mutual
theorem OAt.uniq (s : Same H H') : ∀ {t : OT} {v : V} {fp fp' : List Addr}, OAt K cl H G t v fp → OAt K cl H' G' t v fp' → fp' = fp
  | .sh d, v, fp, fp', h, h' => by
    simp only [OAt] at h h'
    rw [h.1, h'.1]
  | .lst xs, v, fp, fp', h, h' => by
    simp only [OAt] at h h'
    obtain ⟨a, vs, fs, h1, h2, h3, h4⟩ := h
    obtain ⟨a', vs', fs', h1', h2', h3', h4'⟩ := h'
    rw [h1] at h1'
    cases h1'
    rw [s _ _ h2] at h2'
    cases h2'
    rw [h3, h3', OAts.uniq s h4 h4']
  | .dic ks xs, v, fp, fp', h, h' => by
    simp only [OAt] at h h'
    obtain ⟨a, vs, fs, h1, h2, h0, h3, h4⟩ := h
    obtain ⟨a', vs', fs', h1', h2', h0', h3', h4'⟩ := h'
    rw [h1] at h1'
    cases h1'
    rw [s _ _ h2] at h2'
    have e := HO.dK.inj (Option.some.inj h2')
    have e := zip_right_inj (by rw [h4.length, h0]) (by rw [h4'.length, h0]) e
    subst e
    rw [h3, h3', OAts.uniq s h4 h4']
  | .obj c xs, v, fp, fp', h, h' => by
    simp only [OAt] at h h'
    obtain ⟨a, dx, vs, fs, h1, h2, h0, h3, h4⟩ := h
    obtain ⟨a', dx', vs', fs', h1', h2', h0', h3', h4'⟩ := h'
    rw [h1] at h1'
    cases h1'
    rw [s _ _ h2] at h2'
    have e := (HO.ins.inj (Option.some.inj h2')).2.2
    have e := zip_right_inj (by rw [h4.length, h0]) (by rw [h4'.length, h0]) e
    subst e
    rw [h3, h3', OAts.uniq s h4 h4']
theorem OAts.uniq (s : Same H H') : ∀ {ts : List OT} {vs : List V} {fp fp' : List Addr}, OAts K cl H G ts vs fp → OAts K cl H' G' ts vs fp' → fp' = fp
  | [], vs, fp, fp', h, h' => by
    simp only [OAts] at h h'
    rw [h.2, h'.2]
  | x :: xs, vs, fp, fp', h, h' => by
    simp only [OAts] at h h'
    obtain ⟨v, r, f1, f2, h1, h2, h3, h4⟩ := h
    obtain ⟨v', r', f1', f2', h1', h2', h3', h4'⟩ := h'
    rw [h1] at h1'
    cases h1'
    rw [h2, h2', OAt.uniq s h3 h3', OAts.uniq s h4 h4']
end
end
inductive Cell where
  | no | sh (d : D) | own (o : Ow)
  /-- a tree of one's own; k: it stands where the world says -/
  | tre (k : Bool) (t : OT)
  /-- the exception that is handled -/
  | xc
abbrev Env := List Cell
def cellAt : Env → Nat → Cell
  | [], _ => .no
  | c :: _, 0 => c
  | _ :: r, i + 1 => cellAt r i
theorem cellAt_get : ∀ {ρ : Env} {i : Nat} {c : Cell}, cellAt ρ i = c → c ≠ .no → ρ[i]? = some c
  | [], _, _, h, n => absurd h.symm n
  | c :: _, 0, _, h, _ => by
    subst h
    rfl
  | _ :: r, i + 1, c, h, n => by
    simpa using cellAt_get (ρ := r) (i := i) h n
structure Wd where
  cl : Nat → ClsT
  G0 : Hp
  H0 : Hp
  /-- where the object stands that an __init__ fills, or that a def changes for its caller -/
  sf : Nat → Addr
  /-- what is wished of an exception that leaves here -/
  wx : WX
  /-- where the exception stands that is handled -/
  xa : Addr
/-- the heap over the entry -/
structure Base (w : Wd) (H G : Hp) : Prop where
  ext : Same w.H0 H
  gext : Same w.G0 G
  sub : Same G H
  new : ∀ b, G b ≠ none → w.G0 b ≠ none ∨ w.H0 b = none
theorem Base.grow {w : Wd} {H G : Hp} (b : Base w H G) : Grow w.H0 w.G0 H G := ⟨b.ext, b.gext, b.sub, b.new⟩
theorem Base.go {w : Wd} {H G H' G' : Hp} (b : Base w H G) (g : Grow H G H' G') : Base w H' G' :=
  ⟨b.ext.trans g.hh, b.gext.trans g.gg, g.sub, fun c hc => (g.new c hc).elim (fun z => b.new c z) fun z => .inr (b.ext.free z)⟩
/-- b is none of the flat objects of one's own -/
def NoOwn (σ : L2.St) (ρ : Env) (b : Addr) : Prop := ∀ (j : Nat) (o : Ow), ρ[j]? = some (.own o) → σ[j]? ≠ some (some (.ref b))
/-- the trees of one's own -/
def TreOk (K : PySem.W.Frag) (w : Wd) (σ : L2.St) (H G : Hp) (ρ : Env) : Prop :=
  ∃ fp : Nat → List Addr, ∀ (i : Nat) (k : Bool) (t : OT), ρ[i]? = some (.tre k t) → ∃ v, σ[i]? = some (some v) ∧ OAt K w.cl H G t v (fp i) ∧ (fp i).Nodup ∧ (k = true → v = .ref (w.sf i)) ∧
    ∀ b ∈ fp i, G b = none ∧ w.H0 b = none ∧ NoOwn σ ρ b ∧ ∀ (j : Nat) (k' : Bool) (t' : OT), ρ[j]? = some (.tre k' t') → b ∈ fp j → j = i
theorem TreOk.move {K : PySem.W.Frag} {w : Wd} {σ σ' : L2.St} {H H' G G' : Hp} {ρ ρ' : Env} (h : TreOk K w σ H G ρ)
    (hσ : ∀ (i : Nat) (k : Bool) (t : OT), ρ'[i]? = some (.tre k t) → ρ[i]? = some (.tre k t) ∧ σ'[i]? = σ[i]?)
    (hH : ∀ b : Addr, H b ≠ none → G b = none → w.H0 b = none → NoOwn σ ρ b → H' b = H b ∧ G' b = none ∧ NoOwn σ' ρ' b) (hG : Same G G') : TreOk K w σ' H' G' ρ' := by
  obtain ⟨fp, h⟩ := h
  refine ⟨fp, fun i k t hi => ?_⟩
  obtain ⟨hi1, hi2⟩ := hσ i k t hi
  obtain ⟨v, e1, e2, e3, e4, e5⟩ := h i k t hi1
  refine ⟨v, hi2.trans e1, e2.move hG fun b hb => ?_, e3, e4, fun b hb => ?_⟩
  · obtain ⟨k1, k2, k3, _⟩ := e5 b hb
    exact (hH b (e2.at b hb) k1 k2 k3).1
  · obtain ⟨k1, k2, k3, k4⟩ := e5 b hb
    obtain ⟨q1, q2, q3⟩ := hH b (e2.at b hb) k1 k2 k3
    exact ⟨q2, k2, q3, fun j k' t' hj hb => k4 j k' t' (hσ j k' t' hj).1 hb⟩
structure Rep (K : PySem.W.Frag) (w : Wd) (σ : L2.St) (H G : Hp) (ρ : Env) : Prop where
  base : Base w H G
  len : σ.length = ρ.length
  sh : ∀ (i : Nat) (d : D), ρ[i]? = some (.sh d) → ∃ v, σ[i]? = some (some v) ∧ Den K w.cl G d v
  own : ∀ (i : Nat) (o : Ow), ρ[i]? = some (.own o) → ∃ a ho, σ[i]? = some (some (.ref a)) ∧ H a = some ho ∧ G a = none ∧ w.H0 a = none ∧ OwOk K w.cl G o ho
  slf : ∀ (i c : Nat) (ds : List D), ρ[i]? = some (.own (.obj c ds)) → σ[i]? = some (some (.ref (w.sf 0)))
  dis : ∀ (i j : Nat) (ds es : Ow) (a : Addr), ρ[i]? = some (.own ds) → ρ[j]? = some (.own es) → σ[i]? = some (some (.ref a)) → σ[j]? = some (some (.ref a)) → i = j
  tre : TreOk K w σ H G ρ
  xc : ∀ i : Nat, ρ[i]? = some .xc → σ[i]? = some (some (.ref w.xa))
section
variable {K : PySem.W.Frag} {w : Wd} {σ : L2.St} {G G' H H' : Hp} {ρ : Env}
theorem Grow.keep (g : Grow H G H' G') {b : Addr} (h : H b ≠ none) (hg : G b = none) : H' b = H b ∧ G' b = none := by
  cases q : H b with
  | none => exact absurd q h
  | some u =>
    refine ⟨g.hh _ _ q, ?_⟩
    cases q2 : G' b with
    | none => rfl
    | some o =>
      rcases g.new b (by rw [q2]; exact fun z => nomatch z) with z | z
      · exact absurd hg z
      · rw [q] at z
        cases z
theorem Rep.go (r : Rep K w σ H G ρ) (g : Grow H G H' G') : Rep K w σ H' G' ρ := by
  refine ⟨r.base.go g, r.len, fun i d e => ?_, fun i ds e => ?_, r.slf, r.dis, r.tre.move (fun i k t e => ⟨e, rfl⟩) (fun b h1 h2 h3 h4 => ⟨(g.keep h1 h2).1, (g.keep h1 h2).2, h4⟩) g.gg, r.xc⟩
  · obtain ⟨v, e1, e2⟩ := r.sh i d e
    exact ⟨v, e1, e2.mono g.gg⟩
  · obtain ⟨a, vs, e1, e2, e3, e4, e5⟩ := r.own i ds e
    exact ⟨a, vs, e1, g.hh _ _ e2, (g.keep (by rw [e2]; exact fun z => nomatch z) e3).2, e4, e5.mono g.gg⟩
end
section
/-- a node whose children are plain, as plain data -/
def plainL : List OT → Option (List D)
  | [] => some []
  | .sh d :: r => (plainL r).map fun ds => d :: ds
  | _ :: _ => none
def OT.flat : OT → Option D
  | .sh d => some d
  | .lst xs => (plainL xs).map .lst
  | .dic ks xs => (plainL xs).map (.dic ks)
  | .obj c xs => (plainL xs).map (.ins c)
end
abbrev Ef := Env → Option D
abbrev Tf := Env → Option Bool
abbrev Af := Env → Option (List D)
def tP (K : PySem.W.Frag) (w : Wd) (f : Ef) : TE := fun σ H Q => ∃ ρ G d, Rep K w σ H G ρ ∧ f ρ = some d ∧ ∀ v H' G', Grow H G H' G' → Den K w.cl G' d v → Q v H'
def tO (K : PySem.W.Frag) (w : Wd) (f : Ef) : TE := fun σ H Q => ∃ ρ G d, Rep K w σ H G ρ ∧ f ρ = some d ∧ ∀ v H' G', Grow H G H' G' → Obs K w.cl G' H' d v → Q v H'
def tF (K : PySem.W.Frag) (w : Wd) (f : Af) : TE := fun σ H Q => ∃ ρ G ds, Rep K w σ H G ρ ∧ f ρ = some ds ∧ ∀ a vs H' G', Grow H G H' G' → H a = none → H' a = some (.lst vs) → G' a = none → Dens K w.cl G' ds vs → Q (.ref a) H'
def tT (K : PySem.W.Frag) (w : Wd) (f : Tf) : TT := fun σ H Q => ∃ ρ G b, Rep K w σ H G ρ ∧ f ρ = some b ∧ ∀ H' G', Grow H G H' G' → Q b H'
def tA (K : PySem.W.Frag) (w : Wd) (f : Af) : TA := fun σ H Q => ∃ ρ G ds, Rep K w σ H G ρ ∧ f ρ = some ds ∧ ∀ vs H' G', Grow H G H' G' → Dens K w.cl G' ds vs → Q vs H'
abbrev VE (w : Wd) (X : Cx) (e : Expr) (f : Ef) : Prop := PE X e (tP X.K w f)
abbrev VO (w : Wd) (X : Cx) (e : Expr) (f : Ef) : Prop := PE X e (tO X.K w f)
abbrev VF (w : Wd) (X : Cx) (e : Expr) (f : Af) : Prop := PE X e (tF X.K w f)
abbrev VT (w : Wd) (X : Cx) (e : Expr) (f : Tf) : Prop := PT X e (tT X.K w f)
abbrev VW (w : Wd) (X : Cx) (e : Expr) (f : Tf) : Prop := PW X e (tT X.K w f)
abbrev VA (w : Wd) (X : Cx) (es : List Expr) (f : Af) : Prop := PA X es (tA X.K w f)
/-- what a statement comes to -/
inductive Out where
  | nx (ρ : Env) | bk (ρ : Env) | ct (ρ : Env)
  | rt (d : D) (ρ : Env) | rf (o : Ow) (ρ : Env)
  | ex (c : Nat) (ds : List D) (ρ : Env)
  | stuck
abbrev Sf := Env → Out
/-- an exception of class c with these fields, its own dict at d -/
def ExAt (K : PySem.W.Frag) (cl : Nat → ClsT) (H G : Hp) (c : Nat) (ds : List D) (d : Option Addr) : Prop :=
  ∃ vs, Dens K cl G ds vs ∧ ((ds = [] ∧ (cl c).names = [] ∧ d = none) ∨ ∃ dd, d = some dd ∧ H dd = some (.xd ((cl c).names.zip vs)) ∧ G dd = none ∧ (cl c).names.length = ds.length)
def post (K : PySem.W.Frag) (w : Wd) (G0 : Hp) (Ds : Ends) : Out → Prop
  | .nx ρ => ∀ σ H G, Same G0 G → Rep K w σ H G ρ → Ds.nx σ H
  | .bk ρ => ∀ σ H G, Same G0 G → Rep K w σ H G ρ → Ds.bk σ H
  | .ct ρ => ∀ σ H G, Same G0 G → Rep K w σ H G ρ → Ds.ct σ H
  | .rt d ρ => ∀ v σ H G, Same G0 G → Rep K w σ H G ρ → Den K w.cl G d v → Ds.rt v H
  | .rf o ρ => ∀ a ho σ H G, Same G0 G → Rep K w σ H G ρ → (∀ (j : Nat) (o' : Ow), ρ[j]? = some (.own o') → σ[j]? ≠ some (some (.ref a))) → w.H0 a = none → H a = some ho → G a = none → OwOk K w.cl G o ho → Ds.rt (.ref a) H
  | .ex c ds ρ => ∀ σ H G d, Same G0 G → Rep K w σ H G ρ → ExAt K w.cl H G c ds d → w.wx (.ref (w.cl c).addr) d σ H
  | .stuck => False
def tS (K : PySem.W.Frag) (w : Wd) (F : Sf) : TS := fun Ds σ H => ∃ ρ G, Rep K w σ H G ρ ∧ post K w G Ds (F ρ)
theorem post.mono {K : PySem.W.Frag} {w : Wd} {G G' : Hp} {Ds : Ends} (h : Same G G') : ∀ {o : Out}, post K w G Ds o → post K w G' Ds o
  | .nx _, q => fun σ H G2 s => q σ H G2 (h.trans s)
  | .bk _, q => fun σ H G2 s => q σ H G2 (h.trans s)
  | .ct _, q => fun σ H G2 s => q σ H G2 (h.trans s)
  | .rt _ _, q => fun v σ H G2 s => q v σ H G2 (h.trans s)
  | .rf _ _, q => fun a ho σ H G2 s => q a ho σ H G2 (h.trans s)
  | .ex _ _ _, q => fun σ H G2 d s => q σ H G2 d (h.trans s)
  | .stuck, q => q
abbrev VS (w : Wd) (X : Cx) (s : Stmt) (F : Sf) : Prop := PS X s (tS X.K w F)
abbrev VSs (w : Wd) (X : Cx) (s : List Stmt) (F : Sf) : Prop := PSs X s (tS X.K w F)
section
variable {X : Cx} {e : Expr} {es : List Expr} {s : Stmt} {ss : List Stmt}
theorem PE.imp {t t' : TE} (h : PE X e t) (hi : ∀ σ H Q, t' σ H Q → t σ H Q) : PE X e t' := ⟨fun pins s σ H Q I q => h.run pins s σ H Q I (hi _ _ _ q)⟩
theorem PT.imp {t t' : TT} (h : PT X e t) (hi : ∀ σ H Q, t' σ H Q → t σ H Q) : PT X e t' := ⟨fun pins s σ H Q I q => h.run pins s σ H Q I (hi _ _ _ q)⟩
theorem PW.imp {t t' : TT} (h : PW X e t) (hi : ∀ σ H Q, t' σ H Q → t σ H Q) : PW X e t' := ⟨fun wh pins s σ H Q I q => h.run wh pins s σ H Q I (hi _ _ _ q)⟩
theorem PA.imp {t t' : TA} (h : PA X es t) (hi : ∀ σ H Q, t' σ H Q → t σ H Q) : PA X es t' := ⟨fun pos pins s σ H Q I q => h.run pos pins s σ H Q I (hi _ _ _ q)⟩
theorem PS.imp {t t' : TS} (h : PS X s t) (hi : ∀ Ds σ H, t' Ds σ H → t Ds σ H) : PS X s t' := ⟨fun pins s σ H Ds I q => h.run pins s σ H Ds I (hi _ _ _ q)⟩
theorem PSs.imp {t t' : TS} (h : PSs X ss t) (hi : ∀ Ds σ H, t' Ds σ H → t Ds σ H) : PSs X ss t' := ⟨fun pins s σ H Ds I q => h.run pins s σ H Ds I (hi _ _ _ q)⟩
end
section
variable {X : Cx} {w : Wd} {e ea eb : Expr} {es : List Expr} {f g : Ef} {pos : Pos}
theorem toO (h : VE w X e f) : VO w X e f := PE.imp h fun σ H Q ⟨ρ, G, d, r, hf, q⟩ => ⟨ρ, G, d, r, hf, fun v H' G' g z => q v H' G' g (Obs.of g.sub z)⟩
theorem fresh_in {H G H' G' : Hp} {a : Addr} {ho : HO} (g : Grow H G H' G') (h0 : H a = none) (h1 : H' a = some ho) (h2 : G' a = none) : Grow H G H' (upd G' a ho) := by
  have gn : Same G' (upd G' a ho) := same_upd h2
  refine ⟨g.hh, g.gg.trans gn, fun b x z => ?_, fun b hb => ?_⟩
  · by_cases hba : b = a
    · subst hba
      rw [upd_same] at z
      rw [← z]
      exact h1
    · rw [upd_ne hba] at z
      exact g.sub _ _ z
  · by_cases hba : b = a
    · exact .inr (hba ▸ h0)
    · rw [upd_ne hba] at hb
      exact g.new b hb
def fL (f : Af) : Ef := fun ρ => (f ρ).map .lst
def fW (f : Env → Option Ow) : Ef := fun ρ => (f ρ).map Ow.toD
def wL (f : Af) : Env → Option Ow := fun ρ => (f ρ).map .lst
theorem fL_imp {K : PySem.W.Frag} {fs : Af} : ∀ σ H Q, tP K w (fL fs) σ H Q → tF K w fs σ H Q := fun σ H Q ⟨ρ, G, d, r, hf, q⟩ => by
  obtain ⟨ds, e, rfl⟩ := map_some2 hf
  refine ⟨ρ, G, ds, r, e, fun a vs H' G' g h0 h1 h2 h3 => ?_⟩
  refine q (.ref a) H' _ (fresh_in g h0 h1 h2) ?_
  simp only [Den]
  exact ⟨a, vs, rfl, upd_same, h3.mono (same_upd h2)⟩
theorem ofF {f : Af} (h : VF w X e f) : VE w X e (fL f) := PE.imp h fL_imp
theorem seqE {K : PySem.W.Frag} {σ : L2.St} {H G : Hp} {ρ : Env} {d : D} {Q : VK} (r : Rep K w σ H G ρ) (hf : f ρ = some d) (q : ∀ v H' G', Grow H G H' G' → Rep K w σ H' G' ρ → Den K w.cl G' d v → Q v H') : tP K w f σ H Q :=
  ⟨ρ, G, d, r, hf, fun v H' G' g z => q v H' G' g (r.go g) z⟩
theorem seqO {K : PySem.W.Frag} {σ : L2.St} {H G : Hp} {ρ : Env} {d : D} {Q : VK} (r : Rep K w σ H G ρ) (hf : f ρ = some d) (q : ∀ v H' G', Grow H G H' G' → Rep K w σ H' G' ρ → Obs K w.cl G' H' d v → Q v H') : tO K w f σ H Q :=
  ⟨ρ, G, d, r, hf, fun v H' G' g z => q v H' G' g (r.go g) z⟩
def eVar (i : Nat) : Ef := fun ρ => match cellAt ρ i with
  | .sh d => some d
  | _ => none
theorem eVar_some {i : Nat} {ρ : Env} {d : D} (h : eVar i ρ = some d) : ρ[i]? = some (.sh d) := by
  unfold eVar at h
  split at h
  · rename_i d' e
    cases h
    exact cellAt_get e (fun z => nomatch z)
  · cases h
theorem ve_var {i : Nat} (h : PE X e (tVar i)) : VE w X e (eVar i) := PE.imp h fun σ H Q ⟨ρ, G, d, r, hf, q⟩ => by
  obtain ⟨v, e1, e2⟩ := r.sh i d (eVar_some hf)
  exact ⟨v, e1, q v H G (Grow.refl r.base.sub) e2⟩
/-- a local that may hold an object of its own, looked at -/
def eOwn (i : Nat) : Ef := fun ρ => match cellAt ρ i with
  | .own o => some o.toD
  | .sh d => some d
  | .tre _ t => t.flat
  | _ => none
def eC (d : D) : Ef := fun _ => some d
theorem ve_int {i : Int} {j} : VE w X (.Constant (.int i) j pos) (eC (.int i)) := PE.imp pe_int fun σ H Q ⟨ρ, G, d, r, hf, q⟩ => by
  cases hf
  exact q _ H G (Grow.refl r.base.sub) (by simp only [Den])
theorem ve_bl {b : Bool} {j} : VE w X (.Constant (.bool b) j pos) (eC (.bl b)) := PE.imp pe_bl fun σ H Q ⟨ρ, G, d, r, hf, q⟩ => by
  cases hf
  exact q _ H G (Grow.refl r.base.sub) (by simp only [Den])
theorem ve_non {j} : VE w X (.Constant .none j pos) (eC .non) := PE.imp pe_non fun σ H Q ⟨ρ, G, d, r, hf, q⟩ => by
  cases hf
  exact q _ H G (Grow.refl r.base.sub) (by simp only [Den])
/-- what a rule by values gives, over data -/
def Res2 (K : PySem.W.Frag) (cl : Nat → ClsT) (r : R2) (o : D → D → Option D) : Prop :=
  ∀ (d e z : D), o d e = some z → ∀ (H G : Hp) (x y : V) (Q : VK), Same G H → Obs K cl G H d x → Obs K cl G H e y → (∀ v H' G', Grow H G H' G' → Den K cl G' z v → Q v H') → r x y H Q
def eBin (o : D → D → Option D) (f g : Ef) : Ef := fun ρ => (f ρ).bind fun a => (g ρ).bind fun b => o a b
theorem eBin_some {o : D → D → Option D} {ρ : Env} {z : D} (h : eBin o f g ρ = some z) : ∃ a b, f ρ = some a ∧ g ρ = some b ∧ o a b = some z := by
  unfold eBin at h
  cases hf : f ρ with
  | none =>
    rw [hf] at h
    cases h
  | some a =>
    cases hg : g ρ with
    | none =>
      rw [hf] at h
      rw [Option.bind_some, hg] at h
      cases h
    | some b =>
      rw [hf, Option.bind_some, hg, Option.bind_some] at h
      exact ⟨a, b, rfl, rfl, h⟩
theorem op2_imp {r : R2} {o : D → D → Option D} {K : PySem.W.Frag} (hr : Res2 K w.cl r o) : ∀ σ H Q, tP K w (eBin o f g) σ H Q → tOp r (tO K w f) (tO K w g) σ H Q := fun σ H Q ⟨ρ, G, z, rp, hf, q⟩ => by
  obtain ⟨a, b, fa, gb, hz⟩ := eBin_some hf
  refine seqO rp fa fun x H1 G1 g1 r1 z1 => ?_
  refine seqO r1 gb fun y H2 G2 g2 r2 z2 => ?_
  exact hr a b z hz H2 G2 x y Q g2.sub (z1.mono g2.gg g2.hh) z2 fun v H' G' g' zz => q v H' G' (g1.trans (g2.trans g')) zz
theorem ve_bin {op : Operator} {r : R2} {o : D → D → Option D} (ho : OpR X (binaryOp op) r) (hr : Res2 X.K w.cl r o) (ha : VO w X ea f) (hb : VO w X eb g) : VE w X (.BinOp ea op eb pos) (eBin o f g) :=
  PE.imp (pe_op ho ha hb) (op2_imp hr)
theorem ve_cmp {op : CmpOp} {r : R2} {o : D → D → Option D} (ho : OpR X (compareOp op) r) (hr : Res2 X.K w.cl r o) (ha : VO w X ea f) (hb : VO w X eb g) (hm : behindInMarks op eb = false) : VE w X (.Compare ea [op] [eb] pos) (eBin o f g) :=
  PE.imp (pe_cmpR ho ha hb hm) (op2_imp hr)
/-- a value that is a bool -/
def asB : Option D → Option Bool
  | some (.bl b) => some b
  | _ => none
theorem asB_some {o : Option D} {b : Bool} (h : asB o = some b) : o = some (.bl b) := by
  unfold asB at h
  split at h
  · cases h
    rfl
  · cases h
def tB1 (f : Ef) : Tf := fun ρ => asB (f ρ)
theorem vt_imp {K : PySem.W.Frag} {t : TE} (h : ∀ σ H Q, tP K w f σ H Q → t σ H Q) : ∀ σ H Q, tT K w (tB1 f) σ H Q → tTest t σ H Q := fun σ H Q ⟨ρ, G, b, rp, hf, q⟩ => by
  refine h _ _ _ ⟨ρ, G, .bl b, rp, asB_some hf, fun v H' G' g z => ?_⟩
  simp only [Den] at z
  exact ⟨b, z, q H' G' g⟩
theorem vt_cmp {op : CmpOp} {r : R2} {o : D → D → Option D} (ho : OpR X (compareOp op) r) (hr : Res2 X.K w.cl r o) (ha : VO w X ea f) (hb : VO w X eb g) (hm : behindInMarks op eb = false) : VT w X (.Compare ea [op] [eb] pos) (tB1 (eBin o f g)) :=
  PT.imp (pt_cmpR ho ha hb hm) (vt_imp (op2_imp hr))
theorem vt_val (h : VE w X e f) (he : ∀ whole, isTrue e X.env whole = (do let v ← whole; standAt e.pos; holding [v] (truthy v)) := by intro _; rfl) : VT w X e (tB1 f) :=
  PT.imp (pt_val h he) fun σ H Q q => vt_imp (t := tP X.K w f) (fun _ _ _ z => z) σ H Q q
end
end Fw
namespace Fw
open PySem PySem.Spec PyProof.Rows L2
section
variable {K : PySem.W.Frag} {cl : Nat → ClsT} {G H : Hp} {v : V}
theorem den_non (h : Den K cl H .non v) : v = .non := by simpa only [Den] using h
theorem den_bl {b : Bool} (h : Den K cl H (.bl b) v) : v = .bl b := by simpa only [Den] using h
theorem den_int {i : Int} (h : Den K cl H (.int i) v) : v = .int i := by simpa only [Den] using h
theorem den_str {x : Str} (h : Den K cl H (.str x) v) : v = .str x := by simpa only [Den] using h
theorem den_ty {x : String} (h : Den K cl H (.ty x) v) : v = .ty x := by simpa only [Den] using h
theorem den_tup {ds : List D} (h : Den K cl H (.tup ds) v) : ∃ a vs, v = .ref a ∧ TupAt K H a vs ∧ Dens K cl H ds vs := by simpa only [Den] using h
theorem den_lst {ds : List D} (h : Den K cl H (.lst ds) v) : ∃ a vs, v = .ref a ∧ H a = some (.lst vs) ∧ Dens K cl H ds vs := by simpa only [Den] using h
theorem den_fl {ds : List D} (h : Den K cl H (.fl ds) v) : ∃ a vs, v = .ref a ∧ SqL K H a vs ∧ Dens K cl H ds vs := by simpa only [Den] using h
theorem mk_non : Den K cl H .non .non := by simp only [Den]
theorem mk_bl {b : Bool} : Den K cl H (.bl b) (.bl b) := by simp only [Den]
theorem mk_int {i : Int} : Den K cl H (.int i) (.int i) := by simp only [Den]
theorem mk_str {x : Str} : Den K cl H (.str x) (.str x) := by simp only [Den]
theorem mk_ty {x : String} : Den K cl H (.ty x) (.ty x) := by simp only [Den]
theorem mk_tup {ds : List D} {a : Addr} {vs : List V} (h : TupAt K H a vs) (q : Dens K cl H ds vs) : Den K cl H (.tup ds) (.ref a) := by
  simp only [Den]
  exact ⟨a, vs, rfl, h, q⟩
theorem mk_lst {ds : List D} {a : Addr} {vs : List V} (h : H a = some (.lst vs)) (q : Dens K cl H ds vs) : Den K cl H (.lst ds) (.ref a) := by
  simp only [Den]
  exact ⟨a, vs, rfl, h, q⟩
theorem obs_non (h : Obs K cl G H .non v) : v = .non := den_non (K := K) (cl := cl) (H := G) h
theorem obs_bl {b : Bool} (h : Obs K cl G H (.bl b) v) : v = .bl b := den_bl (K := K) (cl := cl) (H := G) h
theorem obs_int {i : Int} (h : Obs K cl G H (.int i) v) : v = .int i := den_int (K := K) (cl := cl) (H := G) h
theorem obs_str {x : Str} (h : Obs K cl G H (.str x) v) : v = .str x := den_str (K := K) (cl := cl) (H := G) h
theorem obs_ty {x : String} (h : Obs K cl G H (.ty x) v) : v = .ty x := den_ty (K := K) (cl := cl) (H := G) h
theorem obs_tup {ds : List D} (h : Obs K cl G H (.tup ds) v) : ∃ a vs, v = .ref a ∧ TupAt K G a vs ∧ Dens K cl G ds vs := den_tup (K := K) (cl := cl) (H := G) h
theorem obs_lst {ds : List D} (h : Obs K cl G H (.lst ds) v) : ∃ a vs, v = .ref a ∧ H a = some (.lst vs) ∧ Dens K cl G ds vs := h
theorem obs_fl {ds : List D} (h : Obs K cl G H (.fl ds) v) : ∃ a vs, v = .ref a ∧ SqL K G a vs ∧ Dens K cl G ds vs := den_fl (K := K) (cl := cl) (H := G) h
theorem obs_ins {c : Nat} {ds : List D} (h : Obs K cl G H (.ins c ds) v) : ∃ a dx vs, v = .ref a ∧ H a = some (.ins (cl c).addr dx ((cl c).names.zip vs)) ∧ Dens K cl G ds vs := h
theorem den_exnr {c : Nat} {ds : List D} (h : Den K cl H (.exn c ds) v) : ∃ a, v = .ref a := by
  simp only [Den] at h
  rcases h with ⟨_, a, dd, vs, h1, _⟩ | ⟨_, a, h1, _⟩
  · exact ⟨a, h1⟩
  · exact ⟨a, h1⟩
theorem obs_exn {c : Nat} {ds : List D} (h : Obs K cl G H (.exn c ds) v) : ∃ a, v = .ref a := den_exnr (H := G) h
theorem obs_dic {ks : List Key} {ds : List D} (h : Obs K cl G H (.dic ks ds) v) : ∃ a vs, v = .ref a ∧ H a = some (.dK (ks.zip vs)) ∧ ks.length = ds.length ∧ Dens K cl G ds vs := h
end
/-- a rule that gives a new list -/
def ResF2 (K : PySem.W.Frag) (cl : Nat → ClsT) (r : R2) (o : D → D → Option (List D)) : Prop :=
  ∀ (d e : D) (zs : List D), o d e = some zs → ∀ (H G : Hp) (x y : V) (Q : VK), Same G H → Obs K cl G H d x → Obs K cl G H e y →
    (∀ a vs H' G', Grow H G H' G' → H a = none → H' a = some (.lst vs) → G' a = none → Dens K cl G' zs vs → Q (.ref a) H') → r x y H Q
/-- a new tuple -/
theorem new_tup {K : PySem.W.Frag} {cl : Nat → ClsT} {H G : Hp} {p : Addr} {ds : List D} {vs : List V} {Q : VK} (s : Same G H) (hp : H p = none) (hd : Dens K cl G ds vs) (q : ∀ v H' G', Grow H G H' G' → Den K cl G' (.tup ds) v → Q v H') : Q (.ref p) (upd H p (.tup vs)) :=
  q _ _ (upd G p (.tup vs)) (Grow.laid s hp) (mk_tup (.inl upd_same) (hd.mono (same_upd (s.free hp))))
theorem new_lst {K : PySem.W.Frag} {cl : Nat → ClsT} {H G : Hp} {p : Addr} {ds : List D} {vs : List V} {Q : VK} (s : Same G H) (hp : H p = none) (hd : Dens K cl G ds vs)
    (q : ∀ a vs H' G', Grow H G H' G' → H a = none → H' a = some (.lst vs) → G' a = none → Dens K cl G' ds vs → Q (.ref a) H') : Q (.ref p) (upd H p (.lst vs)) :=
  q p vs _ G (Grow.laidO s hp) hp upd_same (s.free hp) hd
theorem line_le {n : Nat} (h : n ≤ 16777216) : n ≤ sizeLine := by rw [sizeLine_eq]; exact h
theorem line_lt {n : Nat} (h : n < 16777216) : n < sizeLine := by rw [sizeLine_eq]; exact h
section
variable {K : PySem.W.Frag} {cl : Nat → ClsT} {f g : Ef} {w : Wd} {X : Cx} {ea eb : Expr} {pos : Pos}
def oCatL (d e : D) : Option (List D) := match d, e with
  | .lst a, .lst b => if a.length + b.length ≤ 16777216 then some (a ++ b) else none
  | _, _ => none
theorem r_catL : ResF2 K cl rCat oCatL := by
  intro d e zs hz H G x y Q s hx hy q
  unfold oCatL at hz
  split at hz
  · rename_i a b
    split at hz
    · rename_i hl
      cases hz
      obtain ⟨p, vs, rfl, h1, h2⟩ := obs_lst hx
      obtain ⟨p', us, rfl, h3, h4⟩ := obs_lst hy
      exact ⟨p, p', vs, us, rfl, rfl, h1, h3, line_le (by rw [h2.length, h4.length]; exact hl), fun r hr => new_lst s hr (h2.append h4) q⟩
    · cases hz
  · cases hz
def oAdd (d e : D) : Option D := match d, e with
  | .int i, .int j => some (.int (i + j))
  | .str a, .str b => if a.length + b.length ≤ 16777216 then some (.str (a ++ b)) else none
  | .tup a, .tup b => if a.length + b.length ≤ 16777216 then some (.tup (a ++ b)) else none
  | .lst a, .lst b => if a.length + b.length ≤ 16777216 then some (.lst (a ++ b)) else none
  | _, _ => none
def rAddD (K : PySem.W.Frag) : R2 := fun x y H Q => rI0 (fun i j => .int (i + j)) x y H Q ∨ (∃ i j, x = .str i ∧ y = .str j ∧ i.length + j.length ≤ sizeLine ∧ Q (.str (i ++ j)) H) ∨ rCatA K x y H Q ∨ rCat x y H Q
theorem op_addD : OpR X (binaryOp .Add) (rAddD X.K) := op_add.or (op_add_str.or (op_catA.or op_cat))
theorem r_add : Res2 K cl (rAddD K) oAdd := by
  intro d e z hz H G x y Q s hx hy q
  unfold oAdd at hz
  split at hz
  · rename_i i j
    cases hz
    exact .inl ⟨i, j, obs_int hx, obs_int hy, q _ H G (Grow.refl s) mk_int⟩
  · rename_i a b
    split at hz
    · rename_i hl
      cases hz
      exact .inr (.inl ⟨a, b, obs_str hx, obs_str hy, line_le hl, q _ H G (Grow.refl s) mk_str⟩)
    · cases hz
  · rename_i a b
    split at hz
    · rename_i hl
      cases hz
      obtain ⟨p, vs, rfl, h1, h2⟩ := obs_tup hx
      obtain ⟨p', us, rfl, h3, h4⟩ := obs_tup hy
      refine .inr (.inr (.inl ⟨p, p', vs, us, rfl, rfl, same_seqT s h1.sq, same_seqT s h3.sq, line_le (by rw [h2.length, h4.length]; exact hl), fun e => ?_, fun _ e => ?_, fun _ _ r hr => new_tup s hr (h2.append h4) q⟩))
      · have ea : a = [] := by
          have z := h2.length
          rw [e] at z
          exact List.length_eq_zero_iff.mp z.symm
        rw [ea, List.nil_append] at q
        exact q _ H G (Grow.refl s) (mk_tup h3 h4)
      · have eb : b = [] := by
          have z := h4.length
          rw [e] at z
          exact List.length_eq_zero_iff.mp z.symm
        rw [eb, List.append_nil] at q
        exact q _ H G (Grow.refl s) (mk_tup h1 h2)
    · cases hz
  · rename_i a b
    split at hz
    · rename_i hl
      cases hz
      obtain ⟨p, vs, rfl, h1, h2⟩ := obs_lst hx
      obtain ⟨p', us, rfl, h3, h4⟩ := obs_lst hy
      refine .inr (.inr (.inr ⟨p, p', vs, us, rfl, rfl, h1, h3, line_le (by rw [h2.length, h4.length]; exact hl), fun r hr => ?_⟩))
      exact q _ _ (upd G r (.lst (vs ++ us))) (Grow.laid s hr) (mk_lst upd_same ((h2.append h4).mono (same_upd (s.free hr))))
    · cases hz
  · cases hz
def oInt (C : Int → Int → Bool) (F : Int → Int → Int) (d e : D) : Option D := match d, e with
  | .int i, .int j => if C i j = true then some (.int (F i j)) else none
  | _, _ => none
theorem r_int {C : Int → Int → Bool} {C' : Int → Int → Prop} {F : Int → Int → Int} (hC : ∀ i j, C i j = true → C' i j) : Res2 K cl (rI C' fun i j => .int (F i j)) (oInt C F) := by
  intro d e z hz H G x y Q s hx hy q
  unfold oInt at hz
  split at hz
  · rename_i i j
    split at hz
    · rename_i hc
      cases hz
      exact ⟨i, j, obs_int hx, obs_int hy, hC i j hc, q _ H G (Grow.refl s) mk_int⟩
    · cases hz
  · cases hz
def oSub : D → D → Option D := oInt (fun _ _ => true) fun i j => i - j
theorem r_sub : Res2 K cl (rI0 fun i j => .int (i - j)) oSub := by
  intro d e z hz H G x y Q s hx hy q
  unfold oSub oInt at hz
  split at hz
  · rename_i i j
    cases hz
    exact ⟨i, j, obs_int hx, obs_int hy, q _ H G (Grow.refl s) mk_int⟩
  · cases hz
def oFdiv : D → D → Option D := oInt (fun _ j => decide (0 < j ∧ j < 1073741824)) fun i j => i / j
theorem r_fdiv : Res2 K cl (rI CDiv fun i j => .int (i / j)) oFdiv := r_int fun i j h => by
  have h' := of_decide_eq_true h
  exact h'
def oMod : D → D → Option D := oInt (fun _ j => decide (0 < j)) fun i j => i % j
theorem r_mod : Res2 K cl (rI (fun _ j => 0 < j) fun i j => .int (i % j)) oMod := r_int fun i j h => by simpa using h
def oPow : D → D → Option D := oInt (fun i j => decide (0 ≤ j ∧ j ≤ 1000000 ∧ i.natAbs < 18446744073709551616)) fun i j => i ^ j.toNat
theorem r_pow : Res2 K cl (rI CPow fun i j => .int (i ^ j.toNat)) oPow := r_int fun i j h => by
  have h' := of_decide_eq_true h
  exact ⟨h'.1, h'.2.1, h'.2.2⟩
def mulC (i j : Int) : Bool := decide ((-18446744073709551616 < i ∧ i < 18446744073709551616) ∨ (-18446744073709551616 < j ∧ j < 18446744073709551616))
theorem mulC_ok (i j : Int) (h : mulC i j = true) : CMul i j := by
  have h' := of_decide_eq_true h
  exact h'
def oMulI : D → D → Option D := oInt mulC fun i j => i * j
theorem r_mulI : Res2 K cl (rI CMul fun i j => .int (i * j)) oMulI := r_int mulC_ok
def oCmp (p : Int → Int → Bool) (d e : D) : Option D := match d, e with
  | .int i, .int j => some (.bl (p i j))
  | _, _ => none
theorem r_cmp {p : Int → Int → Bool} : Res2 K cl (rI0 fun i j => .bl (p i j)) (oCmp p) := by
  intro d e z hz H G x y Q s hx hy q
  unfold oCmp at hz
  split at hz
  · rename_i i j
    cases hz
    exact ⟨i, j, obs_int hx, obs_int hy, q _ H G (Grow.refl s) mk_bl⟩
  · cases hz
def oLt : D → D → Option D := oCmp fun i j => decide (i < j)
def oLe : D → D → Option D := oCmp fun i j => decide (i ≤ j)
def oGt : D → D → Option D := oCmp fun i j => decide (j < i)
def oGe : D → D → Option D := oCmp fun i j => decide (j ≤ i)
mutual
def py : D → Option PyData
  | .non => some .none
  | .bl b => some (.bool b)
  | .int i => some (.int i)
  | .str x => some (.str x)
  | .tup ds => (pys ds).map .tuple
  | .lst ds => (pys ds).map .list
  | .fl ds => (pys ds).map .list
  | .ins _ _ => none
  | .exn _ _ => none
  | .dic _ _ => none
  | .ty _ => none
def pys : List D → Option (List PyData)
  | [] => some []
  | d :: ds => (py d).bind fun x => (pys ds).map fun r => x :: r
end
mutual
theorem py_dp {H : Hp} : ∀ (d : D) (x : PyData) (v : V), py d = some x → Den K cl H d v → Dp K H v x
  | .non, x, v, e, h => by
    rw [den_non h]
    simp only [py] at e
    cases e
    exact .non
  | .bl b, x, v, e, h => by
    rw [den_bl h]
    simp only [py] at e
    cases e
    exact .bl b
  | .int i, x, v, e, h => by
    rw [den_int h]
    simp only [py] at e
    cases e
    exact .int i
  | .str z, x, v, e, h => by
    rw [den_str h]
    simp only [py] at e
    cases e
    exact .str z
  | .tup ds, x, v, e, h => by
    obtain ⟨a, vs, rfl, h1, h2⟩ := den_tup h
    simp only [py] at e
    cases ee : pys ds with
    | none =>
      rw [ee] at e
      cases e
    | some xs =>
      rw [ee] at e
      cases e
      exact .tup h1.sq (pys_dp ds xs vs ee h2)
  | .lst ds, x, v, e, h => by
    obtain ⟨a, vs, rfl, h1, h2⟩ := den_lst h
    simp only [py] at e
    cases ee : pys ds with
    | none =>
      rw [ee] at e
      cases e
    | some xs =>
      rw [ee] at e
      cases e
      exact .lst (.inl (.inl h1)) (pys_dp ds xs vs ee h2)
  | .fl ds, x, v, e, h => by
    obtain ⟨a, vs, rfl, h1, h2⟩ := den_fl h
    simp only [py] at e
    cases ee : pys ds with
    | none =>
      rw [ee] at e
      cases e
    | some xs =>
      rw [ee] at e
      cases e
      exact .lst h1 (pys_dp ds xs vs ee h2)
  | .ins _ _, x, v, e, h => by
    simp only [py] at e
    cases e
  | .exn _ _, x, v, e, h => by
    simp only [py] at e
    cases e
  | .dic _ _, x, v, e, h => by
    simp only [py] at e
    cases e
  | .ty _, x, v, e, h => by
    simp only [py] at e
    cases e
theorem pys_dp {H : Hp} : ∀ (ds : List D) (xs : List PyData) (vs : List V), pys ds = some xs → Dens K cl H ds vs → DpAll K H vs xs
  | [], xs, vs, e, h => by
    simp only [Dens] at h
    simp only [pys] at e
    cases e
    rw [h]
    exact .nil
  | d :: ds, xs, vs, e, h => by
    simp only [Dens] at h
    obtain ⟨v, r, rfl, h1, h2⟩ := h
    simp only [pys] at e
    cases e1 : py d with
    | none =>
      rw [e1] at e
      cases e
    | some x =>
      cases e2 : pys ds with
      | none =>
        rw [e1, e2] at e
        cases e
      | some ys =>
        rw [e1, e2] at e
        cases e
        exact .cons (py_dp d x v e1 h1) (pys_dp ds ys r e2 h2)
end
theorem pyO_dp {G H : Hp} (s : Same G H) {d : D} {x : PyData} {v : V} (e : py d = some x) (h : Obs K cl G H d v) : Dp K H v x := py_dp d x v e (h.den s)
/-- equality of data as the model reckons it (nothing if it is not plain data) -/
def deq (d e : D) : Option Bool := match d, e with
  | .int i, .int j => some (decide (i = j))
  | .str x, .str y => some (decide (x = y))
  | .bl x, .bl y => some (decide (x = y))
  | .non, .non => some true
  | d, e => (py d).bind fun x => (py e).bind fun y => if SeqAt.shaped x = true ∧ SeqAt.shaped y = true then some (PyData.eqv x y) else none
def oEq (d e : D) : Option D := (deq d e).map .bl
def rEqB (K : PySem.W.Frag) : R2 := fun x y H Q => rEq x y H Q ∨ rEqD K x y H Q
theorem op_eqB (hu : X.A.units + 64 < cLine) : OpR X (compareOp .Eq) (rEqB X.K) := op_eq.or (op_eqD hu)
theorem deq_ok {d e : D} {b : Bool} (h : deq d e = some b) {H G : Hp} {x y : V} (s : Same G H) (hx : Obs K cl G H d x) (hy : Obs K cl G H e y) :
    (scal x y = true ∧ decide (x = y) = b) ∨ ∃ p q, Dp K H x p ∧ Dp K H y q ∧ SeqAt.shaped p = true ∧ SeqAt.shaped q = true ∧ PyData.eqv p q = b := by
  unfold deq at h
  split at h
  · cases h
    rw [obs_int hx, obs_int hy]
    exact .inl ⟨rfl, by simp⟩
  · cases h
    rw [obs_str hx, obs_str hy]
    exact .inl ⟨rfl, by simp⟩
  · cases h
    rw [obs_bl hx, obs_bl hy]
    exact .inl ⟨rfl, by simp⟩
  · cases h
    rw [obs_non hx, obs_non hy]
    exact .inr ⟨.none, .none, .non, .non, by decide +kernel, by decide +kernel, by simp [PyData.eqv]⟩
  · cases e1 : py d with
    | none =>
      rw [e1] at h
      cases h
    | some p =>
      cases e2 : py e with
      | none =>
        rw [e1, e2] at h
        cases h
      | some q =>
        rw [e1, e2, Option.bind_some, Option.bind_some] at h
        split at h
        · rename_i hs
          cases h
          exact .inr ⟨p, q, pyO_dp s e1 hx, pyO_dp s e2 hy, hs.1, hs.2, rfl⟩
        · cases h
theorem r_eq : Res2 K cl (rEqB K) oEq := by
  intro d e z hz H G x y Q s hx hy q
  unfold oEq at hz
  cases hd : deq d e with
  | none =>
    rw [hd] at hz
    cases hz
  | some b =>
    rw [hd] at hz
    cases hz
    have q' := q (.bl b) H G (Grow.refl s) mk_bl
    rcases deq_ok hd s hx hy with ⟨h1, h2⟩ | ⟨p, r, h1, h2, h3, h4, h5⟩
    · exact .inl ⟨h1, by rw [h2]; exact q'⟩
    · exact .inr ⟨p, r, h1, h2, h3, h4, by rw [h5]; exact q'⟩
def isNonD : D → Bool
  | .non => true
  | _ => false
theorem isNon_ok {G H : Hp} {d : D} {x : V} (h : Obs K cl G H d x) : decide (x = .non) = isNonD d := by
  cases d with
  | non => rw [obs_non h]; rfl
  | bl b => rw [obs_bl h]; rfl
  | int i => rw [obs_int h]; rfl
  | str z => rw [obs_str h]; rfl
  | ty z => rw [obs_ty h]; rfl
  | tup ds =>
    obtain ⟨a, vs, rfl, _⟩ := obs_tup h
    rfl
  | lst ds =>
    obtain ⟨a, vs, rfl, _⟩ := obs_lst h
    rfl
  | fl ds =>
    obtain ⟨a, vs, rfl, _⟩ := obs_fl h
    rfl
  | ins c ds =>
    obtain ⟨a, dx, vs, rfl, _⟩ := obs_ins h
    rfl
  | dic ks ds =>
    obtain ⟨a, vs, rfl, _⟩ := obs_dic h
    rfl
  | exn c ds =>
    obtain ⟨a, rfl⟩ := obs_exn h
    rfl
def oIsN (d e : D) : Option D := match e with
  | .non => some (.bl (isNonD d))
  | _ => none
def oNotN (d e : D) : Option D := match e with
  | .non => some (.bl (!isNonD d))
  | _ => none
theorem r_isN : Res2 K cl (fun x y H Q => y = .non ∧ Q (.bl (decide (x = .non))) H) oIsN := by
  intro d e z hz H G x y Q s hx hy q
  unfold oIsN at hz
  split at hz
  · cases hz
    refine ⟨obs_non hy, ?_⟩
    rw [isNon_ok hx]
    exact q _ H G (Grow.refl s) mk_bl
  · cases hz
def itemsOf : D → Option (List D)
  | .lst ds => some ds
  | .fl ds => some ds
  | .tup ds => some ds
  | _ => none
theorem items_ok {G H : Hp} (s : Same G H) {d : D} {ds : List D} {v : V} (h : Obs K cl G H d v) (e : itemsOf d = some ds) : ∃ a vs, v = .ref a ∧ (SqL K H a vs ∨ SqT K H a vs) ∧ Dens K cl G ds vs := by
  cases d with
  | lst es =>
    cases e
    obtain ⟨a, vs, rfl, h1, h2⟩ := obs_lst h
    exact ⟨a, vs, rfl, .inl (.inl (.inl h1)), h2⟩
  | fl es =>
    cases e
    obtain ⟨a, vs, rfl, h1, h2⟩ := obs_fl h
    exact ⟨a, vs, rfl, .inl (s.seq h1), h2⟩
  | tup es =>
    cases e
    obtain ⟨a, vs, rfl, h1, h2⟩ := obs_tup h
    exact ⟨a, vs, rfl, .inr (same_seqT s h1.sq), h2⟩
  | _ => cases e
/-- the item at an index of any sign -/
def ixD (xs : List D) (i : Int) : Option D := if 0 ≤ i then xs[i.toNat]? else if -(xs.length : Int) ≤ i then xs[(i + xs.length).toNat]? else none
theorem ixD_ok {H : Hp} {ds : List D} {vs : List V} {i : Int} {d : D} (h : Dens K cl H ds vs) (e : ixD ds i = some d) : ∃ v, atI vs i = some v ∧ Den K cl H d v := by
  have hl := h.length
  unfold ixD at e
  unfold atI ixN
  by_cases h0 : 0 ≤ i
  · rw [if_pos h0] at e
    obtain ⟨v, e1, e2⟩ := h.get' e
    have hlt : i.toNat < vs.length := (List.getElem?_eq_some_iff.mp e1).1
    rw [if_pos h0, if_pos (by omega), Option.bind_some]
    exact ⟨v, e1, e2⟩
  · rw [if_neg h0] at e
    split at e
    · rename_i h1
      obtain ⟨v, e1, e2⟩ := h.get' e
      rw [if_neg h0, if_pos (by rw [hl]; exact h1), Option.bind_some, hl]
      exact ⟨v, e1, e2⟩
    · cases e
def oIx (d e : D) : Option D := match d, e with
  | .str z, .int i => if z.length ≤ 16777216 then (atI z.cps.toList i).map fun c => .str ⟨#[c]⟩ else none
  | d, .int i => (itemsOf d).bind fun ds => ixD ds i
  | _, _ => none
theorem r_ix : Res2 K cl (rIx K) oIx := by
  intro d e z hz H G x y Q s hx hy q
  unfold oIx at hz
  split at hz
  · rename_i a i
    split at hz
    · rename_i hl
      cases ea : atI a.cps.toList i with
      | none =>
        rw [ea] at hz
        cases hz
      | some c =>
        rw [ea] at hz
        cases hz
        exact .inr (.inr ⟨a, i, c, obs_str hx, obs_int hy, line_le hl, ea, q _ H G (Grow.refl s) mk_str⟩)
    · cases hz
  · rename_i i _
    cases e1 : itemsOf d with
    | none =>
      rw [e1] at hz
      cases hz
    | some ys =>
      rw [e1, Option.bind_some] at hz
      obtain ⟨p, vs, rfl, h1, h2⟩ := items_ok s hx e1
      obtain ⟨v, e2, e3⟩ := ixD_ok h2 hz
      rcases h1 with h1 | h1
      · exact .inl ⟨p, vs, i, v, rfl, obs_int hy, h1, e2, q _ H G (Grow.refl s) e3⟩
      · exact .inr (.inl ⟨p, vs, i, v, rfl, obs_int hy, h1, e2, q _ H G (Grow.refl s) e3⟩)
  · cases hz
def cutD (xs : List D) (lo hi : Option Int) : List D := (xs.drop (HT.sIx xs.length 0 lo)).take (HT.sIx xs.length xs.length hi - HT.sIx xs.length 0 lo)
end
end Fw
namespace Fw
open PySem PySem.Spec PyProof.Rows L2
def ObsL (K : PySem.W.Frag) (cl : Nat → ClsT) (G H : Hp) : List D → List V → Prop
  | [], vs => vs = []
  | d :: ds, vs => ∃ v r, vs = v :: r ∧ Obs K cl G H d v ∧ ObsL K cl G H ds r
theorem ObsL.mono {K : PySem.W.Frag} {cl : Nat → ClsT} {G G' H H' : Hp} (hg : Same G G') (hh : Same H H') : ∀ {ds : List D} {vs : List V}, ObsL K cl G H ds vs → ObsL K cl G' H' ds vs
  | [], _, h => h
  | _ :: _, _, ⟨v, r, e, h1, h2⟩ => ⟨v, r, e, h1.mono hg hh, h2.mono hg hh⟩
def tAo (K : PySem.W.Frag) (w : Wd) (f : Af) : TA := fun σ H Q => ∃ ρ G ds, Rep K w σ H G ρ ∧ f ρ = some ds ∧ ∀ vs H' G', Grow H G H' G' → ObsL K w.cl G' H' ds vs → Q vs H'
abbrev VAo (w : Wd) (X : Cx) (es : List Expr) (f : Af) : Prop := PA X es (tAo X.K w f)
def aNil : Af := fun _ => some []
def aCons (f : Ef) (g : Af) : Af := fun ρ => (f ρ).bind fun d => (g ρ).map fun ds => d :: ds
theorem aCons_some {f : Ef} {g : Af} {ρ : Env} {ds : List D} (h : aCons f g ρ = some ds) : ∃ d r, f ρ = some d ∧ g ρ = some r ∧ ds = d :: r := by
  unfold aCons at h
  cases e1 : f ρ with
  | none =>
    rw [e1] at h
    cases h
  | some d =>
    cases e2 : g ρ with
    | none =>
      rw [e1, e2] at h
      cases h
    | some r =>
      rw [e1, e2] at h
      cases h
      exact ⟨d, r, rfl, rfl, rfl⟩
section
variable {X : Cx} {w : Wd} {e ea eb : Expr} {es : List Expr} {f g : Ef} {fs : Af} {pos p : Pos} {x : Str}
theorem va_nil : VA w X [] aNil := PA.imp pa_nil fun σ H Q ⟨ρ, G, ds, r, hf, q⟩ => by
  cases hf
  exact q [] H G (Grow.refl r.base.sub) Dens.nil
theorem va_cons (h : VE w X e f) (t : VA w X es fs) (hs : starEach (e :: es) X.env = (false, eval e X.env) :: starEach es X.env := by rfl) : VA w X (e :: es) (aCons f fs) := PA.imp (pa_cons h t hs) fun σ H Q ⟨ρ, G, ds, r, hf, q⟩ => by
  obtain ⟨d, l, e1, e2, rfl⟩ := aCons_some hf
  refine seqE r e1 fun v H1 G1 g1 r1 z1 => ?_
  exact ⟨ρ, G1, l, r1, e2, fun vs H2 G2 g2 z2 => q (v :: vs) H2 G2 (g1.trans g2) (Dens.cons (z1.mono g2.gg) z2)⟩
theorem vo_nil : VAo w X [] aNil := PA.imp pa_nil fun σ H Q ⟨ρ, G, ds, r, hf, q⟩ => by
  cases hf
  exact q [] H G (Grow.refl r.base.sub) rfl
theorem vo_cons (h : VO w X e f) (t : VAo w X es fs) (hs : starEach (e :: es) X.env = (false, eval e X.env) :: starEach es X.env := by rfl) : VAo w X (e :: es) (aCons f fs) := PA.imp (pa_cons h t hs) fun σ H Q ⟨ρ, G, ds, r, hf, q⟩ => by
  obtain ⟨d, l, e1, e2, rfl⟩ := aCons_some hf
  refine seqO r e1 fun v H1 G1 g1 r1 z1 => ?_
  exact ⟨ρ, G1, l, r1, e2, fun vs H2 G2 g2 z2 => q (v :: vs) H2 G2 (g1.trans g2) ⟨v, vs, rfl, z1.mono g2.gg g2.hh, z2⟩⟩
def eTup (f : Af) : Ef := fun ρ => (f ρ).bind fun ds => if ds.length ≤ 16777216 then some (.tup ds) else none
def aLst (f : Af) : Af := fun ρ => (f ρ).bind fun ds => if ds.length ≤ 16777216 then some ds else none
theorem vf_lst (h : VA w X es fs) : VF w X (.List es pos) (aLst fs) := PE.imp (pe_lst h) fun σ H Q ⟨ρ, G, d, r, hf, q⟩ => by
  unfold aLst at hf
  cases e1 : fs ρ with
  | none =>
    rw [e1] at hf
    cases hf
  | some ds =>
    rw [e1, Option.bind_some] at hf
    split at hf
    · rename_i hl
      cases hf
      refine ⟨ρ, G, _, r, e1, fun vs H1 G1 g1 z1 => ⟨line_le (by rw [z1.length]; exact hl), fun a ha => ?_⟩⟩
      exact new_lst g1.sub ha z1 fun a us H' G' g' h0 h1 h2 z' => q a us H' G' (g1.trans g') (g1.hh.free h0) h1 h2 z'
    · cases hf
def aBin (o : D → D → Option (List D)) (f g : Ef) : Af := fun ρ => (f ρ).bind fun a => (g ρ).bind fun b => o a b
theorem aBin_some {o : D → D → Option (List D)} {ρ : Env} {z : List D} (h : aBin o f g ρ = some z) : ∃ a b, f ρ = some a ∧ g ρ = some b ∧ o a b = some z := by
  unfold aBin at h
  cases hf : f ρ with
  | none =>
    rw [hf] at h
    cases h
  | some a =>
    cases hg : g ρ with
    | none =>
      rw [hf] at h
      rw [Option.bind_some, hg] at h
      cases h
    | some b =>
      rw [hf, Option.bind_some, hg, Option.bind_some] at h
      exact ⟨a, b, rfl, rfl, h⟩
theorem vf_bin {op : Operator} {r : R2} {o : D → D → Option (List D)} (ho : OpR X (binaryOp op) r) (hr : ResF2 X.K w.cl r o) (ha : VO w X ea f) (hb : VO w X eb g) : VF w X (.BinOp ea op eb pos) (aBin o f g) :=
  PE.imp (pe_op ho ha hb) fun σ H Q ⟨ρ, G, z, rp, hf, q⟩ => by
    obtain ⟨a, b, fa, gb, hz⟩ := aBin_some hf
    refine seqO rp fa fun x H1 G1 g1 r1 z1 => ?_
    refine seqO r1 gb fun y H2 G2 g2 r2 z2 => ?_
    exact hr a b z hz H2 G2 x y Q g2.sub (z1.mono g2.gg g2.hh) z2 fun a vs H' G' g' h0 h1 h2 zz => q a vs H' G' (g1.trans (g2.trans g')) (g1.hh.free (g2.hh.free h0)) h1 h2 zz
def e1o (o : D → Option D) (f : Ef) : Ef := fun ρ => (f ρ).bind o
theorem ve_ix (ha : VO w X ea f) (hb : VO w X eb g) (hs : PlainIx eb) : VE w X (.Subscript ea eb pos) (eBin oIx f g) := PE.imp (pe_ix ix_seq ha hb hs) (op2_imp r_ix)
theorem PO.imp {e : Option Expr} {t t' : TO} (h : PO X e t) (hi : ∀ σ H Q, t' σ H Q → t σ H Q) : PO X e t' := ⟨fun pins s σ H Q I q => h.run pins s σ H Q I (hi _ _ _ q)⟩
def asI : Option D → Option Int
  | some (.int i) => some i
  | _ => none
def pSome (f : Ef) : Env → Option (Option Int) := fun ρ => (asI (f ρ)).map some
def oSl (d : D) (lo hi : Option Int) : Option D := match d with
  | .str z => if z.length ≤ 16777216 then some (.str (cutS z lo hi)) else none
  | .tup ds => some (.tup (cutD ds lo hi))
  | _ => none
def eSl (o : D → Option Int → Option Int → Option D) (f : Ef) (l h : Env → Option (Option Int)) : Ef := fun ρ => (f ρ).bind fun d => (l ρ).bind fun a => (h ρ).bind fun b => o d a b
def aSl (f : Ef) (l h : Env → Option (Option Int)) : Af := fun ρ => match f ρ with
  | some (.lst ds) => (l ρ).bind fun a => (h ρ).map fun b => cutD ds a b
  | some (.fl ds) => (l ρ).bind fun a => (h ρ).map fun b => cutD ds a b
  | _ => none
def eAnd (f g : Ef) : Ef := fun ρ => match f ρ with
  | some (.bl true) => g ρ
  | some (.bl false) => some (.bl false)
  | _ => none
def eOr (f g : Ef) : Ef := fun ρ => match f ρ with
  | some (.bl true) => some (.bl true)
  | some (.bl false) => g ρ
  | _ => none
def oNot : D → Option D
  | .bl b => some (.bl (!b))
  | _ => none
theorem ve_one {op} (h : VE w X e f) : VE w X (.BoolOp op [e] pos) f := pe_one h
theorem ve_and {rest : List Expr} (ha : VE w X ea f) (hb : VE w X (.BoolOp .And (eb :: rest) pos) g) : VE w X (.BoolOp .And (ea :: eb :: rest) pos) (eAnd f g) := PE.imp (pe_and ha hb) fun σ H Q ⟨ρ, G, z, rp, hf, q⟩ => by
  unfold eAnd at hf
  split at hf
  · rename_i e1
    exact seqE rp e1 fun v H1 G1 g1 r1 z1 => ⟨true, den_bl z1, iteT ⟨ρ, G1, z, r1, hf, fun v H2 G2 g2 => q v H2 G2 (g1.trans g2)⟩⟩
  · rename_i e1
    cases hf
    exact seqE rp e1 fun v H1 G1 g1 r1 z1 => ⟨false, den_bl z1, iteF (q _ H1 G1 g1 mk_bl)⟩
  · cases hf
theorem ve_or {rest : List Expr} (ha : VE w X ea f) (hb : VE w X (.BoolOp .Or (eb :: rest) pos) g) : VE w X (.BoolOp .Or (ea :: eb :: rest) pos) (eOr f g) := PE.imp (pe_or ha hb) fun σ H Q ⟨ρ, G, z, rp, hf, q⟩ => by
  unfold eOr at hf
  split at hf
  · rename_i e1
    cases hf
    exact seqE rp e1 fun v H1 G1 g1 r1 z1 => ⟨true, den_bl z1, iteT (q _ H1 G1 g1 mk_bl)⟩
  · rename_i e1
    exact seqE rp e1 fun v H1 G1 g1 r1 z1 => ⟨false, den_bl z1, iteF ⟨ρ, G1, z, r1, hf, fun v H2 G2 g2 => q v H2 G2 (g1.trans g2)⟩⟩
  · cases hf
theorem ve_not (ha : VE w X ea f) : VE w X (.UnaryOp .Not ea pos) (e1o oNot f) := PE.imp (pe_not ha) fun σ H Q ⟨ρ, G, z, rp, hf, q⟩ => by
  unfold e1o at hf
  cases e1 : f ρ with
  | none =>
    rw [e1] at hf
    cases hf
  | some d =>
    rw [e1, Option.bind_some] at hf
    unfold oNot at hf
    split at hf
    · rename_i b
      cases hf
      exact seqE rp e1 fun v H1 G1 g1 r1 z1 => ⟨b, den_bl z1, q _ H1 G1 g1 mk_bl⟩
    · cases hf
def tAndF (f g : Tf) : Tf := fun ρ => match f ρ with
  | some true => g ρ
  | some false => some false
  | none => none
def tOrF (f g : Tf) : Tf := fun ρ => match f ρ with
  | some true => some true
  | some false => g ρ
  | none => none
def tNotF (f : Tf) : Tf := fun ρ => (f ρ).map fun b => !b
theorem vw_and1 {t : Tf} (h : VT w X e t) : VW w X (.BoolOp .And [e] pos) t := pw_and1 h
theorem vw_or1 {t : Tf} (h : VT w X e t) : VW w X (.BoolOp .Or [e] pos) t := pw_or1 h
theorem seqT {K : PySem.W.Frag} {σ : L2.St} {H G : Hp} {ρ : Env} {t : Tf} {b : Bool} {Q : Bool → Hp → Prop} (r : Rep K w σ H G ρ) (hf : t ρ = some b) (q : ∀ H' G', Grow H G H' G' → Rep K w σ H' G' ρ → Q b H') : tT K w t σ H Q :=
  ⟨ρ, G, b, r, hf, fun H' G' g => q H' G' g (r.go g)⟩
theorem vw_and {rest : List Expr} {t u : Tf} (ha : VT w X ea t) (hb : VW w X (.BoolOp .And (eb :: rest) pos) u) : VW w X (.BoolOp .And (ea :: eb :: rest) pos) (tAndF t u) := PW.imp (pw_and ha hb) fun σ H Q ⟨ρ, G, z, rp, hf, q⟩ => by
  unfold tAndF at hf
  split at hf
  · rename_i e1
    exact seqT rp e1 fun H1 G1 g1 r1 => iteT ⟨ρ, G1, z, r1, hf, fun H2 G2 g2 => q H2 G2 (g1.trans g2)⟩
  · rename_i e1
    cases hf
    exact seqT rp e1 fun H1 G1 g1 r1 => iteF (q H1 G1 g1)
  · cases hf
theorem vw_or {rest : List Expr} {t u : Tf} (ha : VT w X ea t) (hb : VW w X (.BoolOp .Or (eb :: rest) pos) u) : VW w X (.BoolOp .Or (ea :: eb :: rest) pos) (tOrF t u) := PW.imp (pw_or ha hb) fun σ H Q ⟨ρ, G, z, rp, hf, q⟩ => by
  unfold tOrF at hf
  split at hf
  · rename_i e1
    cases hf
    exact seqT rp e1 fun H1 G1 g1 r1 => iteT (q H1 G1 g1)
  · rename_i e1
    exact seqT rp e1 fun H1 G1 g1 r1 => iteF ⟨ρ, G1, z, r1, hf, fun H2 G2 g2 => q H2 G2 (g1.trans g2)⟩
  · cases hf
theorem vt_w {t : Tf} (h : VW w X e t) : VT w X e t := h.pt
theorem vt_not {t : Tf} (h : VT w X e t) : VT w X (.UnaryOp .Not e pos) (tNotF t) := PT.imp (pt_not h) fun σ H Q ⟨ρ, G, z, rp, hf, q⟩ => by
  unfold tNotF at hf
  cases e1 : t ρ with
  | none =>
    rw [e1] at hf
    cases hf
  | some b =>
    rw [e1] at hf
    cases hf
    exact seqT rp e1 fun H1 G1 g1 r1 => q H1 G1 g1
def eIf (t : Tf) (f g : Ef) : Ef := fun ρ => match t ρ with
  | some true => f ρ
  | some false => g ρ
  | none => none
/-- a < b < c -/
def tChainF (o o' : D → D → Option D) (f g h : Ef) : Ef := fun ρ => (f ρ).bind fun a => (g ρ).bind fun b => match o a b with
  | some (.bl true) => (h ρ).bind fun c => o' b c
  | some (.bl false) => some (.bl false)
  | _ => none
end
end Fw
namespace Fw
open PySem PySem.Spec PyProof.Rows L2
def ResC (K : PySem.W.Frag) (cl : Nat → ClsT) (r : List V → Hp → VK → Prop) (o : List D → Option D) : Prop :=
  ∀ (ds : List D) (z : D), o ds = some z → ∀ (H G : Hp) (vs : List V) (Q : VK), Same G H → ObsL K cl G H ds vs → (∀ v H' G', Grow H G H' G' → Den K cl G' z v → Q v H') → r vs H Q
def eArgs (o : List D → Option D) (f : Af) : Ef := fun ρ => (f ρ).bind o
def aArgs (o : List D → Option (List D)) (f : Af) : Af := fun ρ => (f ρ).bind o
section
variable {X : Cx} {w : Wd} {e ea eb : Expr} {es : List Expr} {f g : Ef} {fs : Af} {pos p : Pos} {x : Str} {K : PySem.W.Frag} {cl : Nat → ClsT} {id : String}
theorem callC_imp {r : List V → Hp → VK → Prop} {o : List D → Option D} (hr : ResC K w.cl r o) : ∀ σ H Q, tP K w (eArgs o fs) σ H Q → tCB r (tAo K w fs) σ H Q := fun σ H Q ⟨ρ, G, z, rp, hf, q⟩ => by
  unfold eArgs at hf
  cases e1 : fs ρ with
  | none =>
    rw [e1] at hf
    cases hf
  | some ds =>
    rw [e1, Option.bind_some] at hf
    exact ⟨ρ, G, ds, rp, e1, fun vs H1 G1 g1 z1 => hr ds z hf H1 G1 vs Q g1.sub z1 fun v H' G' g' zz => q v H' G' (g1.trans g') zz⟩
theorem ve_callB {r : List V → Hp → VK → Prop} {o : List D → Option D} (hc : CallR X (.builtin id) r) (hr : ResC X.K w.cl r o) (hg : Gl X x) (hm : X.mg x = none) (hv : bootBuiltins x = some (.builtin id)) (ha : VAo w X (e :: es) fs) (hn : x ≠ "__name__" := by decide) (hdb : (x == ("__debug__" : Str)) = false := by decide)
    (he : starEach (e :: es) X.env = (false, eval e X.env) :: starEach es X.env := by rfl) (hpl : (backTo pos (starEach es X.env)).any (·.1) = false := by rfl) : VE w X (.Call (.Name x p) (e :: es) [] pos) (eArgs o fs) :=
  PE.imp (pe_callB hc hg hm hv ha hn hdb he hpl) (callC_imp hr)
theorem ve_callTy {r : List V → Hp → VK → Prop} {o : List D → Option D} (hc : CallR X (.type id) r) (hr : ResC X.K w.cl r o) (hg : Gl X x) (hm : X.mg x = none) (hv : bootBuiltins x = some (.type id)) (ha : VAo w X (e :: es) fs) (hn : x ≠ "__name__" := by decide) (hdb : (x == ("__debug__" : Str)) = false := by decide)
    (he : starEach (e :: es) X.env = (false, eval e X.env) :: starEach es X.env := by rfl) (hpl : (backTo pos (starEach es X.env)).any (·.1) = false := by rfl) : VE w X (.Call (.Name x p) (e :: es) [] pos) (eArgs o fs) :=
  PE.imp (pe_callTy hc hg hm hv ha hn hdb he hpl) (callC_imp hr)
theorem obsl1 {G H : Hp} {d : D} {vs : List V} (h : ObsL K cl G H [d] vs) : ∃ v, vs = [v] ∧ Obs K cl G H d v := by
  obtain ⟨v, r, e, h1, h2⟩ := h
  have h2 : r = [] := h2
  exact ⟨v, by rw [e, h2], h1⟩
theorem obsl2 {G H : Hp} {d d' : D} {vs : List V} (h : ObsL K cl G H [d, d'] vs) : ∃ v u, vs = [v, u] ∧ Obs K cl G H d v ∧ Obs K cl G H d' u := by
  obtain ⟨v, r, e, h1, h2⟩ := h
  obtain ⟨u, e2, h3⟩ := obsl1 h2
  exact ⟨v, u, by rw [e, e2], h1, h3⟩
def oLen : List D → Option D
  | [.str z] => if z.length ≤ 16777216 then some (.int z.length) else none
  | [d] => (itemsOf d).map fun ds => .int ds.length
  | _ => none
theorem r_len : ResC K cl (fun xs H Q => ∃ x n, xs = [x] ∧ LenV K x H n ∧ Q (.int n) H) oLen := by
  intro ds z hz H G vs Q s hv q
  unfold oLen at hz
  split at hz
  · rename_i y
    split at hz
    · rename_i hl
      cases hz
      obtain ⟨v, rfl, h1⟩ := obsl1 hv
      rw [obs_str h1]
      exact ⟨_, y.length, rfl, ⟨line_le hl, rfl⟩, q _ H G (Grow.refl s) mk_int⟩
    · cases hz
  · rename_i d _
    cases e1 : itemsOf d with
    | none =>
      rw [e1] at hz
      cases hz
    | some ys =>
      rw [e1] at hz
      cases hz
      obtain ⟨v, rfl, h1⟩ := obsl1 hv
      obtain ⟨p, vs, rfl, h2, h3⟩ := items_ok s h1 e1
      refine ⟨_, ys.length, rfl, ?_, q _ H G (Grow.refl s) mk_int⟩
      rcases h2 with h2 | h2
      · exact .inl ⟨vs, h2, h3.length.symm⟩
      · exact .inr ⟨vs, h2, h3.length.symm⟩
  · cases hz
def oToInt : List D → Option D
  | [.int i] => some (.int i)
  | [.bl b] => some (.int (if b then 1 else 0))
  | _ => none
theorem r_toInt : ResC K cl (fun xs H Q => (∃ i, xs = [.int i] ∧ Q (.int i) H) ∨ ∃ k, xs = [.bl k] ∧ Q (.int (if k then 1 else 0)) H) oToInt := by
  intro ds z hz H G vs Q s hv q
  unfold oToInt at hz
  split at hz
  · rename_i i
    cases hz
    obtain ⟨v, rfl, h1⟩ := obsl1 hv
    exact .inl ⟨i, by rw [obs_int h1], q _ H G (Grow.refl s) mk_int⟩
  · rename_i b
    cases hz
    obtain ⟨v, rfl, h1⟩ := obsl1 hv
    exact .inr ⟨b, by rw [obs_bl h1], q _ H G (Grow.refl s) mk_int⟩
  · cases hz
def oMax2 : List D → Option D
  | [.int i, .int j] => some (.int (max i j))
  | _ => none
theorem r_max2 : ResC K cl (fun xs H Q => ∃ i j, xs = [.int i, .int j] ∧ Q (.int (if j > i then j else i)) H) oMax2 := by
  intro ds z hz H G vs Q s hv q
  unfold oMax2 at hz
  split at hz
  · rename_i i j
    cases hz
    obtain ⟨v, u, rfl, h1, h2⟩ := obsl2 hv
    refine ⟨i, j, by rw [obs_int h1, obs_int h2], ?_⟩
    have e : (if j > i then j else i) = max i j := by
      split <;> omega
    rw [e]
    exact q _ H G (Grow.refl s) mk_int
  · cases hz
/-- lists of ints -/
def intsOf : List D → Option (List Int)
  | [] => some []
  | .int i :: r => (intsOf r).map fun l => i :: l
  | _ :: _ => none
theorem intsOf_map : ∀ ns : List Int, intsOf (ns.map D.int) = some ns
  | [] => rfl
  | n :: r => by
    rw [List.map_cons, intsOf, intsOf_map r]
    rfl
theorem intsOf_some : ∀ {ds : List D} {ns : List Int}, intsOf ds = some ns → ds = ns.map D.int
  | [], ns, h => by
    cases h
    rfl
  | d :: r, ns, h => by
    cases d with
    | int i =>
      rw [intsOf] at h
      cases e : intsOf r with
      | none =>
        rw [e] at h
        cases h
      | some l =>
        rw [e] at h
        cases h
        rw [intsOf_some e]
        rfl
    | _ => cases h
theorem dens_ints {H : Hp} : ∀ {ns : List Int} {vs : List V}, Dens K cl H (ns.map D.int) vs → vs = ns.map V.int
  | [], _, h => by simpa only [List.map_nil, Dens] using h
  | n :: r, _, h => by
    simp only [List.map_cons, Dens] at h
    obtain ⟨v, l, rfl, h1, h2⟩ := h
    rw [den_int h1, dens_ints h2]
    rfl
def seqOf : D → Option (List D)
  | .lst ds => some ds
  | .fl ds => some ds
  | _ => none
theorem seq_ok {G H : Hp} (s : Same G H) {d : D} {ds : List D} {v : V} (h : Obs K cl G H d v) (e : seqOf d = some ds) : ∃ a vs, v = .ref a ∧ SqL K H a vs ∧ Dens K cl G ds vs := by
  cases d with
  | lst es =>
    cases e
    obtain ⟨a, vs, rfl, h1, h2⟩ := obs_lst h
    exact ⟨a, vs, rfl, .inl (.inl h1), h2⟩
  | fl es =>
    cases e
    obtain ⟨a, vs, rfl, h1, h2⟩ := obs_fl h
    exact ⟨a, vs, rfl, s.seq h1, h2⟩
  | _ => cases e
theorem seqInts {G H : Hp} (s : Same G H) {d : D} {ns : List Int} {v : V} (h : Obs K cl G H d v) (e : (seqOf d).bind intsOf = some ns) : ∃ a, v = .ref a ∧ SqL K H a (ns.map V.int) := by
  obtain ⟨ds, e1, e2⟩ := bind_some2 e
  obtain ⟨a, vs, rfl, h1, h2⟩ := seq_ok s h e1
  rw [intsOf_some e2] at h2
  exact ⟨a, rfl, by rw [← dens_ints h2]; exact h1⟩
def minI : List Int → Option Int
  | [] => none
  | x :: r => some (r.foldl min x)
theorem foldl_min : ∀ (r : List Int) (x : Int), (r.foldl min x = x ∨ r.foldl min x ∈ r) ∧ r.foldl min x ≤ x ∧ ∀ y ∈ r, r.foldl min x ≤ y
  | [], x => ⟨.inl rfl, Int.le_refl _, fun _ h => nomatch h⟩
  | y :: r, x => by
    obtain ⟨h1, h2, h3⟩ := foldl_min r (min x y)
    rw [List.foldl_cons]
    refine ⟨?_, by omega, fun z hz => ?_⟩
    · rcases h1 with h1 | h1
      · rcases Int.le_total x y with h | h
        · rw [Int.min_eq_left h] at h1 ⊢
          exact .inl h1
        · rw [Int.min_eq_right h] at h1 ⊢
          exact .inr (by rw [h1]; exact List.mem_cons_self)
      · exact .inr (List.mem_cons_of_mem _ h1)
    · rcases List.mem_cons.mp hz with rfl | hz
      · omega
      · exact h3 z hz
theorem minI_spec {ns : List Int} {m : Int} (h : minI ns = some m) : m ∈ ns ∧ ∀ y ∈ ns, m ≤ y := by
  cases ns with
  | nil => cases h
  | cons x r =>
    have h : r.foldl min x = m := Option.some.inj h
    obtain ⟨h1, h2, h3⟩ := foldl_min r x
    rw [h] at h1 h2 h3
    refine ⟨?_, fun y hy => ?_⟩
    · rcases h1 with h1 | h1
      · rw [h1]
        exact List.mem_cons_self
      · exact List.mem_cons_of_mem _ h1
    · rcases List.mem_cons.mp hy with rfl | hy
      · exact h2
      · exact h3 y hy
def oMinL : List D → Option D
  | [d] => (((seqOf d).bind intsOf).bind minI).map D.int
  | _ => none
theorem r_minL : ResC K cl (rMin K) oMinL := by
  intro ds z hz H G vs Q s hv q
  unfold oMinL at hz
  split at hz
  · obtain ⟨m, e1, rfl⟩ := map_some2 hz
    obtain ⟨ns, e1, e2⟩ := bind_some2 e1
    obtain ⟨v, rfl, h1⟩ := obsl1 hv
    obtain ⟨a, rfl, h2⟩ := seqInts s h1 e1
    obtain ⟨m1, m2⟩ := minI_spec e2
    refine ⟨a, ns, rfl, h2, List.length_pos_of_mem m1, fun m' k1 k2 => ?_⟩
    have e : m' = m := Int.le_antisymm (k2 _ m1) (m2 _ k1)
    rw [e]
    exact q _ H G (Grow.refl s) mk_int
  · cases hz
def oList : List D → Option (List D)
  | [d] => itemsOf d
  | _ => none
def oTuple : List D → Option D
  | [d] => (itemsOf d).map D.tup
  | _ => none
def tyName : D → Option String
  | .non => some "NoneType"
  | .bl _ => some "bool"
  | .int _ => some "int"
  | .str _ => some "str"
  | .tup _ => some "tuple"
  | .lst _ => some "list"
  | _ => none
theorem tyX_of {G H : Hp} (s : Same G H) {d : D} {n : String} {v : V} (h : Obs K cl G H d v) (e : tyName d = some n) : TyX K H v (.type n) := by
  cases d with
  | non =>
    cases e
    rw [obs_non h]
    exact .base .non
  | bl b =>
    cases e
    rw [obs_bl h]
    exact .base (.bl b)
  | int b =>
    cases e
    rw [obs_int h]
    exact .base (.int b)
  | str b =>
    cases e
    rw [obs_str h]
    exact .base (.str b)
  | tup ds =>
    cases e
    obtain ⟨a, us, rfl, h2, h3⟩ := obs_tup h
    rcases h2.mono s with z | ⟨o, its, n, z, c, _⟩
    · exact .base (.tup z)
    · exact .kTuple z c
  | lst ds =>
    cases e
    obtain ⟨a, us, rfl, h2, h3⟩ := obs_lst h
    exact .base (.lst h2)
  | _ => cases e
def isTy (a b : String) : Option Bool := if a = b then some true else if a = "bool" ∧ b = "int" then some true else
  if a ∈ ["NoneType", "bool", "int", "str", "tuple", "list"] ∧ b ∈ ["bool", "int", "str", "tuple", "list", "dict"] then some false else none
theorem isTy_ok {a b : String} {r : Bool} (h : isTy a b = some r) : PySem.W.kitOne K (.type a) (.type b) = some r := by
  unfold isTy at h
  split at h
  · rename_i e
    cases h
    subst e
    refine kit_ty ?_
    unfold kitB
    rw [if_pos (beq_self_eq_true _)]
  · rename_i ne
    split at h
    · rename_i e
      cases h
      obtain ⟨rfl, rfl⟩ := e
      exact kit_ty (by decide +kernel)
    · rename_i nb
      split at h
      · rename_i e
        cases h
        obtain ⟨h1, h2⟩ := e
        simp only [List.mem_cons, List.not_mem_nil, or_false] at h1 h2
        rcases h1 with rfl | rfl | rfl | rfl | rfl | rfl <;> rcases h2 with rfl | rfl | rfl | rfl | rfl | rfl <;> first | exact kit_ty (by decide +kernel) | exact absurd rfl ne | exact absurd ⟨rfl, rfl⟩ nb
      · cases h
/-- one of several types -/
def tysOf : List D → Option (List String)
  | [] => some []
  | .ty b :: r => (tysOf r).map fun l => b :: l
  | _ :: _ => none
def isAny (a : String) : List String → Option Bool
  | [] => some false
  | b :: r => match isTy a b with
    | some true => some true
    | some false => isAny a r
    | none => none
theorem dens_tys {H : Hp} : ∀ {ds : List D} {bs : List String} {vs : List V}, tysOf ds = some bs → Dens K cl H ds vs → Paired ClsV vs (bs.map Value.type)
  | [], bs, vs, h, q => by
    simp only [Dens] at q
    cases h
    rw [q]
    exact .nil
  | d :: ds, bs, vs, h, q => by
    simp only [Dens] at q
    obtain ⟨v, l, rfl, q1, q2⟩ := q
    cases d with
    | ty b =>
      rw [tysOf] at h
      obtain ⟨r, e, rfl⟩ := map_some2 h
      rw [den_ty q1]
      exact .cons (.ty b) (dens_tys e q2)
    | _ => cases h
theorem isAny_ok {a : String} : ∀ {bs : List String} {r : Bool}, isAny a bs = some r → PySem.W.kitAny K (.type a) (bs.map Value.type) = some r
  | [], r, h => by
    cases h
    exact kitAny_nil
  | b :: bs, r, h => by
    rw [isAny] at h
    split at h
    · rename_i e
      cases h
      exact kitAny_cons (isTy_ok e) (fun z => nomatch z) (fun _ => rfl)
    · rename_i e
      exact kitAny_cons (isTy_ok e) (fun _ => isAny_ok h) (fun z => nomatch z)
    · cases h
def oIsi : List D → Option D
  | [d, .ty b] => ((tyName d).bind fun a => isTy a b).map D.bl
  | [d, .tup ts] => ((tyName d).bind fun a => (tysOf ts).bind fun bs => isAny a bs).map D.bl
  | _ => none
def rIsiD (K : PySem.W.Frag) : List V → Hp → VK → Prop := fun xs H Q => rIsi K xs H Q ∨ rIsiT K xs H Q ∨ rIsiK K xs H Q
theorem call_isiD : CallR X (.builtin "isinstance") (rIsiD X.K) := call_isi.or (call_isiT.or call_isiK)
theorem r_isi : ResC K cl (rIsiD K) oIsi := by
  intro ds z hz H G vs Q s hv q
  unfold oIsi at hz
  split at hz
  · rename_i d b
    obtain ⟨r, e, rfl⟩ := map_some2 hz
    obtain ⟨a, e1, e2⟩ := bind_some2 e
    obtain ⟨v, u, rfl, h1, h2⟩ := obsl2 hv
    rw [obs_ty h2]
    exact .inl ⟨v, .ty b, _, _, r, rfl, .ty b, tyX_of s h1 e1, isTy_ok e2, q _ H G (Grow.refl s) mk_bl⟩
  · rename_i d ts
    obtain ⟨r, e, rfl⟩ := map_some2 hz
    obtain ⟨a, e1, e2⟩ := bind_some2 e
    obtain ⟨bs, e3, e4⟩ := bind_some2 e2
    obtain ⟨v, u, rfl, h1, h2⟩ := obsl2 hv
    obtain ⟨tp, us, rfl, h3, h4⟩ := obs_tup h2
    rcases h3 with z | ⟨o, its, n, z, c, d', _, vl⟩
    · exact .inr (.inl ⟨v, tp, us, _, _, r, rfl, s _ _ z, dens_tys e3 h4, tyX_of s h1 e1, isAny_ok e4, q _ H G (Grow.refl s) mk_bl⟩)
    · have e5 := ClsV.all (dens_tys e3 h4) vl
      obtain ⟨oc, od, dt, sl⟩ := o
      simp only at c d'
      subst c d'
      refine .inr (.inr ⟨v, tp, od, bs.map Value.type, n, sl, _, r, rfl, ?_, tyX_of s h1 e1, isAny_ok e4, q _ H G (Grow.refl s) mk_bl⟩)
      rw [z, ← e5, Array.toArray_toList]
  · cases hz
end
end Fw
namespace Fw
open PySem PySem.Spec PyProof.Rows L2
theorem getset_ne {α : Type} {l : List α} {i j : Nat} {x : α} (h : j ≠ i) : (l.set i x)[j]? = l[j]? := List.getElem?_set_ne (Ne.symm h)
theorem getset_self {α : Type} {l : List α} {i : Nat} {x y : α} (h : (l.set i x)[i]? = some y) : y = x ∧ i < l.length := by
  by_cases hi : i < l.length
  · rw [List.getElem?_set_self hi] at h
    exact ⟨(Option.some.inj h).symm, hi⟩
  · rw [List.getElem?_eq_none (by simpa using hi)] at h
    cases h
section
variable {K : PySem.W.Frag} {w : Wd} {σ : L2.St} {G G' H H' : Hp} {ρ : Env}
theorem xc_set {a : Addr} {σ : L2.St} {ρ : Env} {i : Nat} {x : Option V} {c : Cell} (h : ∀ j : Nat, ρ[j]? = some .xc → σ[j]? = some (some (.ref a))) (hc : c ≠ .xc) : ∀ j : Nat, (ρ.set i c)[j]? = some .xc → (σ.set i x)[j]? = some (some (.ref a)) := fun j hj => by
  by_cases q : j = i
  · subst q
    exact absurd (getset_self hj).1.symm hc
  · rw [getset_ne q] at hj ⊢
    exact h j hj
theorem xc_set0 {a : Addr} {σ : L2.St} {ρ : Env} {i : Nat} {c : Cell} (h : ∀ j : Nat, ρ[j]? = some .xc → σ[j]? = some (some (.ref a))) (hc : c ≠ .xc) : ∀ j : Nat, (ρ.set i c)[j]? = some .xc → σ[j]? = some (some (.ref a)) := fun j hj => by
  by_cases q : j = i
  · subst q
    exact absurd (getset_self hj).1.symm hc
  · rw [getset_ne q] at hj
    exact h j hj
theorem Rep.setSh (r : Rep K w σ H G ρ) {d : D} {v : V} (i : Nat) (h : Den K w.cl G d v) : Rep K w (σ.set i (some v)) H G (ρ.set i (.sh d)) := by
  have hl := r.len
  have ns : ∀ (j : Nat) (k : Bool) (t : OT), (ρ.set i (.sh d))[j]? = some (.tre k t) → j ≠ i ∧ ρ[j]? = some (.tre k t) := fun j k t hj => by
    by_cases q : j = i
    · subst q
      cases (getset_self hj).1
    · rw [getset_ne q] at hj
      exact ⟨q, hj⟩
  refine ⟨r.base, by rw [List.length_set, List.length_set, hl], fun j e hj => ?_, fun j ds hj => ?_, fun j c ds hj => ?_, fun j k ds es a h1 h2 h3 h4 => ?_, r.tre.move (fun j k t hj => ⟨(ns j k t hj).2, getset_ne (ns j k t hj).1⟩) (fun b h1 h2 h3 h4 => ⟨rfl, h2, fun k o hk => ?_⟩) (Same.refl _), xc_set r.xc (fun z => nomatch z)⟩
  · by_cases q : j = i
    · subst q
      obtain ⟨e1, e2⟩ := getset_self hj
      cases e1
      exact ⟨v, List.getElem?_set_self (by omega), h⟩
    · rw [getset_ne q] at hj ⊢
      exact r.sh j e hj
  · by_cases q : j = i
    · subst q
      cases (getset_self hj).1
    · rw [getset_ne q] at hj ⊢
      exact r.own j ds hj
  · by_cases q : j = i
    · subst q
      cases (getset_self hj).1
    · rw [getset_ne q] at hj ⊢
      exact r.slf j c ds hj
  · by_cases q : j = i
    · subst q
      cases (getset_self h1).1
    · by_cases q' : k = i
      · subst q'
        cases (getset_self h2).1
      · rw [getset_ne q] at h1 h3
        rw [getset_ne q'] at h2 h4
        exact r.dis j k ds es a h1 h2 h3 h4
  · by_cases q : k = i
    · subst q
      cases (getset_self hk).1
    · rw [getset_ne q] at hk ⊢
      exact h4 k o hk
theorem Rep.setOwn (r : Rep K w σ H G ρ) (g : Grow H G H' G') {a : Addr} {ds : Ow} {vs : HO} (i : Nat) (hn : H a = none) (ha : H' a = some vs) (hg : G' a = none) (hd : OwOk K w.cl G' ds vs) (hk : ∀ c zs, ds ≠ .obj c zs) : Rep K w (σ.set i (some (.ref a))) H' G' (ρ.set i (.own ds)) := by
  have r' := r.go g
  have hl := r.len
  have other : ∀ (j : Nat) (es : Ow), ρ[j]? = some (.own es) → σ[j]? ≠ some (some (.ref a)) := fun j es hj e => by
    obtain ⟨b, us, e1, e2, _⟩ := r.own j es hj
    rw [e] at e1
    cases e1
    rw [hn] at e2
    cases e2
  have ns : ∀ (j : Nat) (k : Bool) (t : OT), (ρ.set i (.own ds))[j]? = some (.tre k t) → j ≠ i ∧ ρ[j]? = some (.tre k t) := fun j k t hj => by
    by_cases q : j = i
    · subst q
      cases (getset_self hj).1
    · rw [getset_ne q] at hj
      exact ⟨q, hj⟩
  refine ⟨r'.base, by rw [List.length_set, List.length_set, hl], fun j e hj => ?_, fun j es hj => ?_, fun j c es hj => ?_, fun j k es fs b h1 h2 h3 h4 => ?_, r.tre.move (fun j k t hj => ⟨(ns j k t hj).2, getset_ne (ns j k t hj).1⟩) (fun b h1 h2 h3 h4 => ?_) g.gg, xc_set r.xc (fun z => nomatch z)⟩
  · by_cases q : j = i
    · subst q
      cases (getset_self hj).1
    · rw [getset_ne q] at hj ⊢
      exact r'.sh j e hj
  · by_cases q : j = i
    · subst q
      obtain ⟨e1, e2⟩ := getset_self hj
      cases e1
      exact ⟨a, vs, List.getElem?_set_self (by omega), ha, hg, r.base.ext.free hn, hd⟩
    · rw [getset_ne q] at hj ⊢
      exact r'.own j es hj
  · by_cases q : j = i
    · subst q
      have e1 := (getset_self hj).1
      cases e1
      exact absurd rfl (hk _ _)
    · rw [getset_ne q] at hj ⊢
      exact r'.slf j c es hj
  · by_cases q : j = i
    · by_cases q' : k = i
      · rw [q, q']
      · subst q
        have e3 := (getset_self h3).1
        cases e3
        rw [getset_ne q'] at h2 h4
        exact absurd h4 (other k fs h2)
    · by_cases q' : k = i
      · subst q'
        have e4 := (getset_self h4).1
        cases e4
        rw [getset_ne q] at h1 h3
        exact absurd h3 (other j es h1)
      · rw [getset_ne q] at h1 h3
        rw [getset_ne q'] at h2 h4
        exact r'.dis j k es fs b h1 h2 h3 h4
  · cases q : H b with
    | none => exact absurd q h1
    | some u =>
      refine ⟨g.hh _ _ q, ?_, fun k o hk => ?_⟩
      · cases q2 : G' b with
        | none => rfl
        | some o =>
          rcases g.new b (by rw [q2]; exact fun z => nomatch z) with z | z
          · exact absurd h2 z
          · rw [q] at z
            cases z
      · by_cases q' : k = i
        · subst q'
          intro z
          have z := (getset_self z).1
          cases z
          rw [hn] at q
          cases q
        · rw [getset_ne q'] at hk ⊢
          exact h4 k o hk
/-- an owned list is changed -/
theorem Rep.change (r : Rep K w σ H G ρ) {a : Addr} {ds es : Ow} {us : HO} {i : Nat} (hi : ρ[i]? = some (.own ds)) (hs : σ[i]? = some (some (.ref a))) (hd : OwOk K w.cl G es us) (hk : ∀ c zs, es = .obj c zs → a = w.sf 0) : Rep K w σ (upd H a us) G (ρ.set i (.own es)) := by
  have hl := r.len
  obtain ⟨b, vs, e1, e2, e3, e4, e5⟩ := r.own i ds hi
  rw [hs] at e1
  cases e1
  have ne : ∀ (c : Addr) (o : HO), G c = some o → c ≠ a := fun c o hc z => by
    rw [z, e3] at hc
    cases hc
  have ns : ∀ (j : Nat) (k : Bool) (t : OT), (ρ.set i (.own es))[j]? = some (.tre k t) → j ≠ i ∧ ρ[j]? = some (.tre k t) := fun j k t hj => by
    by_cases q : j = i
    · subst q
      cases (getset_self hj).1
    · rw [getset_ne q] at hj
      exact ⟨q, hj⟩
  refine ⟨⟨fun c o hc => ?_, r.base.gext, fun c o hc => ?_, r.base.new⟩, by rw [List.length_set, hl], fun j e hj => ?_, fun j fs hj => ?_, fun j c fs hj => ?_, fun j k f1 f2 b h1 h2 h3 h4 => ?_, r.tre.move (fun j k t hj => ⟨(ns j k t hj).2, rfl⟩) (fun b h1 h2 h3 h4 => ⟨upd_ne (fun z => h4 i ds hi (by rw [z]; exact hs)), h2, fun k o hk => ?_⟩) (Same.refl _), xc_set0 r.xc (fun z => nomatch z)⟩
  · have : c ≠ a := fun z => by
      rw [z, e4] at hc
      cases hc
    rw [upd_ne this]
    exact r.base.ext _ _ hc
  · rw [upd_ne (ne c o hc)]
    exact r.base.sub _ _ hc
  · by_cases q : j = i
    · subst q
      cases (getset_self hj).1
    · rw [getset_ne q] at hj
      exact r.sh j e hj
  · by_cases q : j = i
    · subst q
      have e6 := (getset_self hj).1
      cases e6
      exact ⟨a, us, hs, upd_same, e3, e4, hd⟩
    · rw [getset_ne q] at hj
      obtain ⟨b, vs', k1, k2, k3, k4, k5⟩ := r.own j fs hj
      have : b ≠ a := fun z => by
        subst z
        exact q (r.dis j i fs ds b hj hi k1 hs)
      exact ⟨b, vs', k1, by rw [upd_ne this]; exact k2, k3, k4, k5⟩
  · by_cases q : j = i
    · subst q
      have e6 := (getset_self hj).1
      rw [hs, hk _ _ (Cell.own.inj e6).symm]
    · rw [getset_ne q] at hj
      exact r.slf j c fs hj
  · have get : ∀ (j : Nat) (f : Ow), (ρ.set i (.own es))[j]? = some (.own f) → ∃ f', ρ[j]? = some (.own f') := fun j f hj => by
      by_cases q : j = i
      · exact ⟨ds, by rw [q]; exact hi⟩
      · rw [getset_ne q] at hj
        exact ⟨f, hj⟩
    obtain ⟨f1', h1'⟩ := get j f1 h1
    obtain ⟨f2', h2'⟩ := get k f2 h2
    exact r.dis j k f1' f2' b h1' h2' h3 h4
  · by_cases q : k = i
    · rw [q]
      exact h4 i ds hi
    · rw [getset_ne q] at hk
      exact h4 k o hk
/-- what is new is none of one's own -/
theorem Rep.away (r : Rep K w σ H G ρ) {a : Addr} (h : H a = none) : ∀ (j : Nat) (o : Ow), ρ[j]? = some (.own o) → σ[j]? ≠ some (some (.ref a)) := fun j o hj hs => by
  obtain ⟨b, ho, e1, e2, _⟩ := r.own j o hj
  rw [hs] at e1
  cases e1
  rw [h] at e2
  cases e2
theorem set_no {ρ : Env} {i j : Nat} {c : Cell} (h : (ρ.set i .no)[j]? = some c) (hc : c ≠ .no) : ρ[j]? = some c ∧ j ≠ i := by
  rw [List.getElem?_set] at h
  split at h
  · split at h
    · cases h
      exact absurd rfl hc
    · cases h
  · exact ⟨h, fun e => by subst e; contradiction⟩
/-- a name is given up -/
theorem Rep.clear (r : Rep K w σ H G ρ) (i : Nat) : Rep K w σ H G (ρ.set i .no) := by
  refine ⟨r.base, by rw [List.length_set]; exact r.len, fun j d e => r.sh j d (set_no e (fun z => nomatch z)).1, fun j o e => r.own j o (set_no e (fun z => nomatch z)).1, fun j c ds e => r.slf j c ds (set_no e (fun z => nomatch z)).1, fun j k o o' a e e' => r.dis j k o o' a (set_no e (fun z => nomatch z)).1 (set_no e' (fun z => nomatch z)).1, r.tre.move (fun j k t e => ⟨(set_no e (fun z => nomatch z)).1, rfl⟩) (fun b h1 h2 h3 h4 => ⟨rfl, h2, fun k o hk => h4 k o (set_no hk (fun z => nomatch z)).1⟩) (Same.refl _), xc_set0 r.xc (fun z => nomatch z)⟩
theorem Rep.cleared (r : Rep K w σ H G ρ) {i : Nat} {o : Ow} {a : Addr} (hi : ρ[i]? = some (.own o)) (hs : σ[i]? = some (some (.ref a))) : ∀ (j : Nat) (o' : Ow), (ρ.set i .no)[j]? = some (.own o') → σ[j]? ≠ some (some (.ref a)) := fun j o' hj hs' => by
  obtain ⟨h1, h2⟩ := set_no hj (fun z => nomatch z)
  exact h2 (r.dis j i o' o a h1 hi hs' hs)
/-- an owned list becomes stable -/
def frz (i : Nat) (ρ : Env) : Env := match cellAt ρ i with
  | .own o => ρ.set i (.sh o.toD)
  | _ => ρ
theorem Rep.frz (r : Rep K w σ H G ρ) (i : Nat) : ∃ G', Same G G' ∧ Rep K w σ H G' (Fw.frz i ρ) := by
  unfold Fw.frz
  split
  · rename_i ds e
    have hi := cellAt_get e (fun z => nomatch z)
    obtain ⟨a, vs, e1, e2, e3, e4, e5⟩ := r.own i ds hi
    have hs : Same G (upd G a vs) := same_upd e3
    have hl := r.len
    have ns : ∀ (j : Nat) (k : Bool) (t : OT), (ρ.set i (.sh ds.toD))[j]? = some (.tre k t) → j ≠ i ∧ ρ[j]? = some (.tre k t) := fun j k t hj => by
      by_cases q : j = i
      · subst q
        cases (getset_self hj).1
      · rw [getset_ne q] at hj
        exact ⟨q, hj⟩
    refine ⟨_, hs, ⟨r.base.ext, r.base.gext.trans hs, fun c o hc => ?_, fun c hc => ?_⟩, by rw [List.length_set, hl], fun j d hj => ?_, fun j es hj => ?_, fun j c es hj => ?_, fun j k f1 f2 b h1 h2 h3 h4 => ?_, r.tre.move (fun j k t hj => ⟨(ns j k t hj).2, rfl⟩) (fun b h1 h2 h3 h4 => ⟨rfl, (upd_ne (fun z => h4 i ds hi (by rw [z]; exact e1))).trans h2, fun k o hk => ?_⟩) hs, xc_set0 r.xc (fun z => nomatch z)⟩
    · by_cases q : c = a
      · subst q
        rw [upd_same] at hc
        rw [← hc]
        exact e2
      · rw [upd_ne q] at hc
        exact r.base.sub _ _ hc
    · by_cases q : c = a
      · exact .inr (by rw [q]; exact e4)
      · rw [upd_ne q] at hc
        exact r.base.new c hc
    · by_cases q : j = i
      · subst q
        have e6 := (getset_self hj).1
        cases e6
        exact ⟨_, e1, (e5.mono hs).den upd_same⟩
      · rw [getset_ne q] at hj
        obtain ⟨v, k1, k2⟩ := r.sh j d hj
        exact ⟨v, k1, k2.mono hs⟩
    · by_cases q : j = i
      · subst q
        cases (getset_self hj).1
      · rw [getset_ne q] at hj
        obtain ⟨b, vs', k1, k2, k3, k4, k5⟩ := r.own j es hj
        have : b ≠ a := fun z => by
          subst z
          exact q (r.dis j i es ds b hj hi k1 e1)
        exact ⟨b, vs', k1, k2, by rw [upd_ne this]; exact k3, k4, k5.mono hs⟩
    · by_cases q : j = i
      · subst q
        cases (getset_self hj).1
      · rw [getset_ne q] at hj
        exact r.slf j c es hj
    · by_cases q : j = i
      · subst q
        cases (getset_self h1).1
      · by_cases q' : k = i
        · subst q'
          cases (getset_self h2).1
        · rw [getset_ne q] at h1
          rw [getset_ne q'] at h2
          exact r.dis j k f1 f2 b h1 h2 h3 h4
    · by_cases q : k = i
      · subst q
        cases (getset_self hk).1
      · rw [getset_ne q] at hk
        exact h4 k o hk
  · exact ⟨G, Same.refl _, r⟩
end
section
variable {X : Cx} {w : Wd} {e ea eb : Expr} {s : Stmt} {ss : List Stmt} {f g : Ef} {fs : Af} {pos p : Pos} {x : Str} {F F1 F2 : Sf} {t : Tf}
def sNext : Sf := fun ρ => .nx ρ
def sSeq (F1 F2 : Sf) : Sf := fun ρ => match F1 ρ with
  | .nx ρ1 => F2 ρ1
  | .bk ρ1 => .bk ρ1
  | .ct ρ1 => .ct ρ1
  | .rt d ρ1 => .rt d ρ1
  | .rf ds ρ1 => .rf ds ρ1
  | .ex c ds ρ1 => .ex c ds ρ1
  | .stuck => .stuck
theorem tS_next {K : PySem.W.Frag} : ∀ Ds σ H, tS K w sNext Ds σ H → tNext Ds σ H := fun Ds σ H ⟨ρ, G, r, q⟩ => q σ H G (Same.refl _) r
theorem vss_nil : VSs w X [] sNext := PSs.imp pss_nil tS_next
theorem tS_seq {K : PySem.W.Frag} : ∀ Ds σ H, tS K w (sSeq F1 F2) Ds σ H → tSeq (tS K w F1) (tS K w F2) Ds σ H := fun Ds σ H ⟨ρ, G, r, q⟩ => by
  refine ⟨ρ, G, r, ?_⟩
  unfold sSeq at q
  cases e : F1 ρ with
  | nx ρ1 =>
    rw [e] at q
    exact fun σ' H' G' s r' => ⟨ρ1, G', r', post.mono s q⟩
  | bk ρ1 =>
    rw [e] at q
    exact q
  | ct ρ1 =>
    rw [e] at q
    exact q
  | rt d ρ1 =>
    rw [e] at q
    exact q
  | rf d ρ1 =>
    rw [e] at q
    exact q
  | ex c zs ρ1 =>
    rw [e] at q
    exact q
  | stuck =>
    rw [e] at q
    exact q
theorem vss_cons (h1 : VS w X s F1) (h2 : VSs w X ss F2) : VSs w X (s :: ss) (sSeq F1 F2) := PSs.imp (pss_cons h1 h2) tS_seq
theorem vss_one (h1 : VS w X s F1) : VSs w X [s] F1 := pss_one h1
def sFrz (i : Nat) (F : Sf) : Sf := fun ρ => F (frz i ρ)
def sBreak : Sf := fun ρ => .bk ρ
theorem vs_break : VS w X (.Break pos) sBreak := PS.imp ps_break fun Ds σ H ⟨ρ, G, r, q⟩ => q σ H G (Same.refl _) r
def sSet (i : Nat) (f : Ef) : Sf := fun ρ => match f ρ with
  | some d => .nx (ρ.set i (.sh d))
  | none => .stuck
theorem vs_set {i : Nat} {pos' : Pos} (hN : X.N.Nodup) (hi : X.N[i]? = some x) (hx : Loc X.env.scope x) (he : VE w X e f) (hs : swapsWith e (some (.Name x pos')) pos.line X.env = pure false := by rfl) (hf : X.fn x = true ∨ X.env.scope.names.lookup x = some .local := by first | exact .inl rfl | exact .inr rfl | assumption) :
    VS w X (.Assign [.Name x pos'] e pos) (sSet i f) := PS.imp (ps_set hN hi hx he hs hf) fun Ds σ H ⟨ρ, G, r, q⟩ => by
  unfold sSet at q
  cases e1 : f ρ with
  | none =>
    rw [e1] at q
    exact q.elim
  | some d =>
    rw [e1] at q
    exact seqE r e1 fun v H1 G1 g1 r1 z1 => q _ H1 G1 g1.gg (r1.setSh i z1)
def sSetF (i : Nat) (f : Af) : Sf := fun ρ => match f ρ with
  | some ds => .nx (ρ.set i (.own (.lst ds)))
  | none => .stuck
theorem vs_setF {i : Nat} {pos' : Pos} (hN : X.N.Nodup) (hi : X.N[i]? = some x) (hx : Loc X.env.scope x) (he : VF w X e fs) (hs : swapsWith e (some (.Name x pos')) pos.line X.env = pure false := by rfl) (hf : X.fn x = true ∨ X.env.scope.names.lookup x = some .local := by first | exact .inl rfl | exact .inr rfl | assumption) :
    VS w X (.Assign [.Name x pos'] e pos) (sSetF i fs) := PS.imp (ps_set hN hi hx he hs hf) fun Ds σ H ⟨ρ, G, r, q⟩ => by
  unfold sSetF at q
  cases e1 : fs ρ with
  | none =>
    rw [e1] at q
    exact q.elim
  | some ds =>
    rw [e1] at q
    exact ⟨ρ, G, ds, r, e1, fun a vs H1 G1 g1 h0 h1 h2 h3 => q _ H1 G1 g1.gg (r.setOwn g1 i h0 h1 h2 ⟨vs, rfl, h3⟩ fun _ _ z => nomatch z)⟩
def sSetN (i : Nat) (f : Env → Option Ow) : Sf := fun ρ => match f ρ with
  | some (.lst ds) => .nx (ρ.set i (.own (.lst ds)))
  | some (.dic ks ds) => .nx (ρ.set i (.own (.dic ks ds)))
  | _ => .stuck
def sRetO (f : Env → Option Ow) : Sf := fun ρ => match f ρ with
  | some o => .rf o ρ
  | none => .stuck
def sDrop (f : Ef) : Sf := fun ρ => match f ρ with
  | some _ => .nx ρ
  | none => .stuck
def sRet (f : Ef) : Sf := fun ρ => match f ρ with
  | some d => .rt d ρ
  | none => .stuck
theorem vs_ret (he : VE w X e f) : VS w X (.Return (some e) pos) (sRet f) := PS.imp (ps_ret he) fun Ds σ H ⟨ρ, G, r, q⟩ => by
  unfold sRet at q
  cases e1 : f ρ with
  | none =>
    rw [e1] at q
    exact q.elim
  | some d =>
    rw [e1] at q
    exact seqE r e1 fun v H1 G1 g1 r1 z1 => q v σ H1 G1 g1.gg r1 z1
def sRetF (f : Af) : Sf := fun ρ => match f ρ with
  | some ds => .rf (.lst ds) ρ
  | none => .stuck
theorem vs_retF (he : VF w X e fs) : VS w X (.Return (some e) pos) (sRetF fs) := PS.imp (ps_ret he) fun Ds σ H ⟨ρ, G, r, q⟩ => by
  unfold sRetF at q
  cases e1 : fs ρ with
  | none =>
    rw [e1] at q
    exact q.elim
  | some ds =>
    rw [e1] at q
    exact ⟨ρ, G, ds, r, e1, fun a vs H1 G1 g1 h0 h1 h2 h3 => q a (.lst vs) σ H1 G1 g1.gg (r.go g1) (r.away h0) (r.base.ext.free h0) h1 h2 ⟨vs, rfl, h3⟩⟩
/-- return of a name that may hold a list of its own -/
def sRetV (i : Nat) : Sf := fun ρ => match cellAt ρ i with
  | .own o => .rf o (ρ.set i .no)
  | .sh d => .rt d ρ
  | .no => .stuck
  | .tre _ _ => .stuck
  | .xc => .stuck
theorem vs_retV {i : Nat} (h : PE X e (tVar i)) : VS w X (.Return (some e) pos) (sRetV i) := PS.imp (ps_ret h) fun Ds σ H ⟨ρ, G, r, q⟩ => by
  unfold sRetV at q
  cases e1 : cellAt ρ i with
  | no =>
    rw [e1] at q
    exact q.elim
  | tre k t =>
    rw [e1] at q
    exact q.elim
  | xc =>
    rw [e1] at q
    exact q.elim
  | sh d =>
    rw [e1] at q
    obtain ⟨v, k1, k2⟩ := r.sh i d (cellAt_get e1 (fun z => nomatch z))
    exact ⟨v, k1, q v σ H G (Same.refl _) r k2⟩
  | own ds =>
    rw [e1] at q
    obtain ⟨a, vs, k1, k2, k3, k4, k5⟩ := r.own i ds (cellAt_get e1 (fun z => nomatch z))
    exact ⟨_, k1, q a vs σ H G (Same.refl _) (r.clear i) (r.cleared (cellAt_get e1 (fun z => nomatch z)) k1) k4 k2 k3 k5⟩
def sIf (t : Tf) (F1 F2 : Sf) : Sf := fun ρ => match t ρ with
  | some true => F1 ρ
  | some false => F2 ρ
  | none => .stuck
theorem vs_if {c : Expr} {a b : List Stmt} (hc : VT w X c t) (ha : VSs w X a F1) (hb : VSs w X b F2) : VS w X (.If c a b pos) (sIf t F1 F2) := PS.imp (ps_if hc ha hb) fun Ds σ H ⟨ρ, G, r, q⟩ => by
  unfold sIf at q
  cases e1 : t ρ with
  | none =>
    rw [e1] at q
    exact q.elim
  | some b =>
    rw [e1] at q
    refine seqT r e1 fun H1 G1 g1 r1 => ?_
    cases b with
    | true => exact iteT ⟨ρ, G1, r1, post.mono g1.gg q⟩
    | false => exact iteF ⟨ρ, G1, r1, post.mono g1.gg q⟩
/-- x += e, on ints -/
def sAugI (o : Int → Int → Int) (i : Nat) (f : Ef) : Sf := fun ρ => match cellAt ρ i, f ρ with
  | .sh (.int a), some (.int b) => .nx (ρ.set i (.sh (.int (o a b))))
  | _, _ => .stuck
/-- x.append(e), x a list of its own -/
def sApp (i : Nat) (f : Ef) : Sf := fun ρ => match cellAt ρ i, f ρ with
  | .own (.lst ds), some d => if ds.length < 16777216 then .nx (ρ.set i (.own (.lst (ds ++ [d])))) else .stuck
  | _, _ => .stuck
theorem vs_app {i : Nat} {o : Expr} {apos cpos : Pos} (ho : PE X o (tVar i)) (he : VE w X e f)
    (hbase : attributeBase o "append" X.env (eval o X.env) = eval o X.env := by rfl)
    (hfew : ((backTo cpos (starEach [e] X.env)).all (fun x => !x.1) && (backToKw cpos (keywordEach [] X.env)).all (fun x => x.1.isSome)
      && decide (([e]).length + ([] : List Keyword).length + (if ([] : List Keyword).isEmpty then 0 else 1) < 30)) = true := by rfl)
    (hline : (apos.endLine == cpos.line) = true := by rfl) (hs : starEach [e] X.env = (false, eval e X.env) :: starEach [] X.env := by rfl) (hplain : (backTo cpos (starEach [] X.env)).any (·.1) = false := by rfl)
    (hsw : swapsWith (.Call (.Attribute o "append" apos) [e] [] cpos) none pos.line X.env = pure false := by rfl) :
    VS w X (.Expr (.Call (.Attribute o "append" apos) [e] [] cpos) pos) (sApp i f) :=
  PS.imp (ps_expr (pe_bm PySem.F.plainAttrs_list PySem.F.slot_list_append PySem.F.type_list_append mt_append ho (pa_cons he pa_nil hs) hbase hfew hline hs hplain) hsw) fun Ds σ H ⟨ρ, G, r, q⟩ => by
    unfold sApp at q
    split at q
    · rename_i ds d e1 e2
      split at q
      · rename_i hl
        have hi := cellAt_get e1 (fun z => nomatch z)
        obtain ⟨a, ho, k1, k2, k3, k4, vs, rfl, k5⟩ := r.own i _ hi
        refine ⟨_, k1, .inl ⟨rfl, vs, .inl (.inl k2)⟩, seqE r e2 fun u H1 G1 g1 r1 z1 => ?_⟩
        refine ⟨a, vs, u, rfl, rfl, g1.hh _ _ k2, line_lt (by rw [k5.length]; exact hl), q _ _ G1 g1.gg ?_⟩
        exact r1.change hi k1 ⟨_, rfl, (k5.mono g1.gg).append (Dens.cons z1 Dens.nil)⟩ fun _ _ z => nomatch z
      · exact q.elim
    · exact q.elim
/-- x[i] = e, x a list of its own -/
def ixN' (n : Nat) (i : Int) : Option Nat := if 0 ≤ i then (if i < n then some i.toNat else none) else if -(n : Int) ≤ i then some (i + n).toNat else none
def sSto (i : Nat) (ix f : Ef) : Sf := fun ρ => match cellAt ρ i, asI (ix ρ), f ρ with
  | .own (.lst ds), some k, some d => match ixN' ds.length k with
    | some j => .nx (ρ.set i (.own (.lst (ds.set j d))))
    | none => .stuck
  | _, _, _ => .stuck
end
section
variable {X : Cx} {w : Wd} {pos : Pos} {x : Str}
/-- stores of the items one after another -/
def putL : List Nat → List D → Env → Option Env
  | [], [], ρ => some ρ
  | i :: is, d :: ds, ρ => putL is ds (ρ.set i (.sh d))
  | _, _, _ => none
/-- a target: one name, or several -/
inductive Tg where
  | nm (i : Nat) | tp (is : List Nat)
def Tg.ixs : Tg → List Nat
  | .nm i => [i]
  | .tp is => is
def put : Tg → D → Env → Option Env
  | .nm i, d, ρ => some (ρ.set i (.sh d))
  | .tp is, .tup ds, ρ => putL is ds ρ
  | .tp _, _, _ => none
/-- what has been stored where -/
def setL : List Nat → List V → L2.St → Option L2.St
  | [], [], σ => some σ
  | i :: is, v :: vs, σ => setL is vs (σ.set i (some v))
  | _, _, _ => none
def sets (t : Tg) (K : PySem.W.Frag) (H : Hp) (v : V) (σ : L2.St) (σ' : L2.St) : Prop := match t with
  | .nm i => σ' = σ.set i (some v)
  | .tp is => ∃ a vs, v = .ref a ∧ SqT K H a vs ∧ setL is vs σ = some σ'
abbrev VG (w : Wd) (X : Cx) (tg : Expr) (t : Tg) : Prop := PG X tg (fun v σ H Q => ∃ σ', sets t X.K H v σ σ' ∧ Q σ' H)
theorem PG.imp {tg : Expr} {t t' : TG} (h : PG X tg t) (hi : ∀ v σ H Q, t' v σ H Q → t v σ H Q) : PG X tg t' := ⟨fun pins s σ H v u Q I r q => h.run pins s σ H v u Q I r (hi _ _ _ _ q)⟩
theorem vg_nm {i : Nat} (hN : X.N.Nodup) (hi : X.N[i]? = some x) (hx : Loc X.env.scope x) (hf : X.fn x = true ∨ X.env.scope.names.lookup x = some .local := by first | exact .inl rfl | exact .inr rfl | assumption) : VG w X (.Name x pos) (.nm i) :=
  PG.imp (pg_name hN hi hx hf) fun v σ H Q ⟨σ', e, q⟩ => by
    have e : σ' = σ.set i (some v) := e
    subst e
    exact q
theorem PGs.imp {ts : List Expr} {t t' : TGs} (h : PGs X ts t) (hi : ∀ v σ H Q, t' v σ H Q → t v σ H Q) : PGs X ts t' := ⟨fun pins s σ H v u Q I r q => h.run pins s σ H v u Q I r (hi _ _ _ _ q)⟩
theorem putL_ok {K : PySem.W.Frag} {H G : Hp} : ∀ {is : List Nat} {ds : List D} {vs : List V} {ρ ρ' : Env} {σ : L2.St}, Rep K w σ H G ρ → putL is ds ρ = some ρ' → Dens K w.cl G ds vs → ∃ σ', setL is vs σ = some σ' ∧ Rep K w σ' H G ρ'
  | [], [], vs, ρ, ρ', σ, r, h, q => by
    simp only [Dens] at q
    cases h
    rw [q]
    exact ⟨σ, rfl, r⟩
  | i :: is, d :: ds, vs, ρ, ρ', σ, r, h, q => by
    simp only [Dens] at q
    obtain ⟨v, l, rfl, q1, q2⟩ := q
    exact putL_ok (is := is) (r.setSh i q1) h q2
  | [], _ :: _, _, _, _, _, _, h, _ => by cases h
  | _ :: _, [], _, _, _, _, _, h, _ => by cases h
theorem put_ok {K : PySem.W.Frag} {H G : Hp} {t : Tg} {d : D} {v : V} {ρ ρ' : Env} {σ : L2.St} (r : Rep K w σ H G ρ) (h : put t d ρ = some ρ') (q : Den K w.cl G d v) : ∃ σ', sets t K H v σ σ' ∧ Rep K w σ' H G ρ' := by
  cases t with
  | nm i =>
    cases h
    exact ⟨_, rfl, r.setSh i q⟩
  | tp is =>
    cases d with
    | tup ds =>
      obtain ⟨a, vs, rfl, q1, q2⟩ := den_tup q
      obtain ⟨σ', e, r'⟩ := putL_ok (is := is) r h q2
      exact ⟨σ', ⟨a, vs, rfl, same_seqT r.base.sub q1.sq, e⟩, r'⟩
    | _ => cases h
/-- a, b = e -/
def sUnp (t : Tg) (f : Ef) : Sf := fun ρ => match (f ρ).bind fun d => put t d ρ with
  | some ρ' => .nx ρ'
  | none => .stuck
end
/-- the walk yields the data ds, whatever new objects come -/
def Walk (cl : Nat → ClsT) (K : PySem.W.Frag) (G : Hp) (J : It) (ds : List D) : Prop := ∀ H2 G2, Same G G2 → Same G2 H2 →
  (∀ (i : Nat) (d : D), ds[i]? = some d → J.go i H2 ∧ ∀ x H3, J.yld i H2 x H3 → ∃ G3, Grow H2 G2 H3 G3 ∧ Den K cl G3 d x) ∧ J.stop ds.length H2
def tI (K : PySem.W.Frag) (w : Wd) (f : Af) : TI := fun σ H R => ∃ ρ G ds, Rep K w σ H G ρ ∧ f ρ = some ds ∧ ∀ J H' G', Grow H G H' G' → Walk w.cl K G' J ds → R J H'
abbrev VI (w : Wd) (X : Cx) (tg iter : Expr) (f : Af) : Prop := PI X tg iter (tI X.K w f)
section
variable {X : Cx} {w : Wd} {tg e : Expr} {f : Ef} {fs : Af} {pos p : Pos} {K : PySem.W.Frag} {cl : Nat → ClsT}
theorem PI.imp {t t' : TI} (h : PI X tg e t) (hi : ∀ σ H Q, t' σ H Q → t σ H Q) : PI X tg e t' := ⟨fun pins s σ H Q I q => h.run pins s σ H Q I (hi _ _ _ q)⟩
theorem walk_list {G : Hp} {a : Addr} {vs : List V} {ds : List D} (h : SqL K G a vs) (q : Dens K cl G ds vs) : Walk cl K G (Itl K a) ds := fun H2 G2 s1 s2 => by
  have h2 : SqL K H2 a vs := s2.seq (s1.seq h)
  refine ⟨fun i d e => ?_, vs, h2, Nat.le_of_eq q.length⟩
  obtain ⟨v, e1, e2⟩ := q.get' e
  refine ⟨⟨vs, v, h2, e1⟩, fun x H3 ⟨e3, y⟩ => ?_⟩
  have := y vs h2
  rw [e1] at this
  cases this
  subst e3
  exact ⟨G2, Grow.refl s2, e2.mono s1⟩
theorem walk_tup {G : Hp} {a : Addr} {vs : List V} {ds : List D} (h : SqT K G a vs) (q : Dens K cl G ds vs) : Walk cl K G (Itt K a) ds := fun H2 G2 s1 s2 => by
  have h2 : SqT K H2 a vs := same_seqT s2 (same_seqT s1 h)
  refine ⟨fun i d e => ?_, vs, h2, Nat.le_of_eq q.length⟩
  obtain ⟨v, e1, e2⟩ := q.get' e
  refine ⟨⟨vs, v, h2, e1⟩, fun x H3 ⟨e3, y⟩ => ?_⟩
  have := y vs h2
  rw [e1] at this
  cases this
  subst e3
  exact ⟨G2, Grow.refl s2, e2.mono s1⟩
def aSeq (f : Ef) : Af := fun ρ => (f ρ).bind seqOf
theorem vi_list (h : VE w X e f) : VI w X tg e (aSeq f) := PI.imp (pi_list h) fun σ H R ⟨ρ, G, ds, r, hf, q⟩ => by
  obtain ⟨d, e1, e2⟩ := bind_some2 hf
  refine seqE r e1 fun v H1 G1 g1 r1 z1 => ?_
  cases d with
  | lst es =>
    cases e2
    obtain ⟨a, vs, rfl, h1, h2⟩ := den_lst z1
    exact ⟨a, rfl, ⟨vs, g1.sub.seq (.inl (.inl h1))⟩, q _ H1 G1 g1 (walk_list (.inl (.inl h1)) h2)⟩
  | fl es =>
    cases e2
    obtain ⟨a, vs, rfl, h1, h2⟩ := den_fl z1
    exact ⟨a, rfl, ⟨vs, g1.sub.seq h1⟩, q _ H1 G1 g1 (walk_list h1 h2)⟩
  | _ => cases e2
def aTup (f : Ef) : Af := fun ρ => match f ρ with
  | some (.tup ds) => some ds
  | _ => none
theorem vi_tup (h : VE w X e f) : VI w X tg e (aTup f) := PI.imp (pi_tup h) fun σ H R ⟨ρ, G, ds, r, hf, q⟩ => by
  unfold aTup at hf
  split at hf
  · rename_i es e1
    cases hf
    refine seqE r e1 fun v H1 G1 g1 r1 z1 => ?_
    obtain ⟨a, vs, rfl, h1, h2⟩ := den_tup z1
    exact ⟨a, rfl, ⟨vs, same_seqT g1.sub h1.sq⟩, q _ H1 G1 g1 (walk_tup h1.sq h2)⟩
  · cases hf
theorem PI.or {t t' : TI} (h : PI X tg e t) (h' : PI X tg e t') : PI X tg e (fun σ H R => t σ H R ∨ t' σ H R) := ⟨fun pins s σ H R I q => q.elim (h.run pins s σ H R I) (h'.run pins s σ H R I)⟩
/-- a list or a tuple -/
def aItems (f : Ef) : Af := fun ρ => (f ρ).bind itemsOf
theorem vi_items (h : VE w X e f) : VI w X tg e (aItems f) := PI.imp (PI.or (vi_list (w := w) h) (vi_tup h)) fun σ H R ⟨ρ, G, ds, r, hf, q⟩ => by
  obtain ⟨d, e1, e2⟩ := bind_some2 hf
  cases d with
  | lst es => exact .inl ⟨ρ, G, ds, r, by unfold aSeq; rw [e1]; exact e2, q⟩
  | fl es => exact .inl ⟨ρ, G, ds, r, by unfold aSeq; rw [e1]; exact e2, q⟩
  | tup es => exact .inr ⟨ρ, G, ds, r, by unfold aTup; rw [e1]; exact e2, q⟩
  | _ => cases e2
theorem walk_range {G : Hp} {lo : Int} {n : Nat} : Walk cl K G (Itr lo n) ((List.range n).map fun i => .int (lo + (i : Nat))) := fun H2 G2 s1 s2 => by
  refine ⟨fun i d e => ?_, ?_⟩
  · rw [List.getElem?_map] at e
    cases e1 : (List.range n)[i]? with
    | none =>
      rw [e1] at e
      cases e
    | some j =>
      rw [e1] at e
      have hi := (List.getElem?_eq_some_iff.mp e1).1
      rw [List.length_range] at hi
      have ej : j = i := by
        have := List.getElem?_eq_some_iff.mp e1
        obtain ⟨_, q⟩ := this
        rw [List.getElem_range] at q
        exact q.symm
      cases e
      refine ⟨hi, fun x H3 ⟨e3, y⟩ => ?_⟩
      subst e3
      rw [y, ej]
      exact ⟨G2, Grow.refl s2, mk_int⟩
  · rw [List.length_map, List.length_range]
    exact Nat.le_refl n
def rangeD (lo : Int) (n : Nat) : List D := (List.range n).map fun i => .int (lo + (i : Nat))
def aRng1 (fs : Af) : Af := fun ρ => match fs ρ with
  | some [.int j] => if j < 4611686018427387904 ∧ -4611686018427387904 ≤ j then some (rangeD 0 j.toNat) else none
  | _ => none
def aRng2 (fs : Af) : Af := fun ρ => match fs ρ with
  | some [.int i, .int j] => if (j < 4611686018427387904 ∧ -4611686018427387904 ≤ j) ∧ i < 4611686018427387904 ∧ -4611686018427387904 ≤ i then some (rangeD i (j - i).toNat) else none
  | _ => none
theorem vi_range1 {a : Expr} (hg : Gl X "range") (hm : X.mg "range" = none) (ha : VAo w X [a] fs) (hs : starEach [a] X.env = [(false, eval a X.env)] := by rfl) : VI w X tg (.Call (.Name "range" p) [a] [] pos) (aRng1 fs) :=
  PI.imp (pi_range1 hg hm ha hs) fun σ H R ⟨ρ, G, ds, r, hf, q⟩ => by
    unfold aRng1 at hf
    split at hf
    · rename_i j e1
      split at hf
      · rename_i hj
        cases hf
        refine ⟨ρ, G, _, r, e1, fun vs H1 G1 g1 z1 => ?_⟩
        obtain ⟨v, rfl, h1⟩ := obsl1 z1
        exact ⟨j, by rw [obs_int h1], by omega, by omega, q _ H1 G1 g1 walk_range⟩
      · cases hf
    · cases hf
def loopF (t : Tg) (F : Sf) : List D → Env → Out
  | [], ρ => .nx ρ
  | d :: ds, ρ => match put t d ρ with
    | none => .stuck
    | some ρ1 => match F ρ1 with
      | .nx ρ2 => loopF t F ds ρ2
      | .ct ρ2 => loopF t F ds ρ2
      | .bk ρ2 => .nx ρ2
      | .rt d ρ2 => .rt d ρ2
      | .rf d ρ2 => .rf d ρ2
      | .ex c zs ρ2 => .ex c zs ρ2
      | .stuck => .stuck
def sFor (f : Af) (t : Tg) (F : Sf) : Sf := fun ρ => match f ρ with
  | some ds => loopF t F ds ρ
  | none => .stuck
theorem drop_at {α : Type} {l : List α} {i : Nat} (h : i < l.length) : l.drop i = l[i] :: l.drop (i + 1) := List.drop_eq_getElem_cons h
theorem vs_for {iter : Expr} {body : List Stmt} {t : Tg} {F : Sf} (hp : PassesOwn (model X.prog X.w) X.A X.env X.xe) (hc : X.calm = true) (hi : VI w X tg iter fs) (hg : VG w X tg t) (hb : VSs w X body F)
    (hs : ∀ x, foldedSetIterable iter X.env x = pure x := by intro _; rfl) : VS w X (.For tg iter body [] pos) (sFor fs t F) :=
  PS.imp (ps_for hp hc hi hg hb hs) fun Ds σ H ⟨ρ, G, r, q⟩ => by
    unfold sFor at q
    cases e0 : fs ρ with
    | none =>
      rw [e0] at q
      exact q.elim
    | some ds =>
      rw [e0] at q
      refine ⟨ρ, G, ds, r, e0, fun J H1 G1 g1 wk => ?_⟩
      refine ⟨fun i m σ H => m = ds.length - i ∧ i ≤ ds.length ∧ ∃ ρ G2, Rep X.K w σ H G2 ρ ∧ Same G1 G2 ∧ post X.K w G1 Ds (loopF t F (ds.drop i) ρ), ⟨ds.length, rfl, Nat.zero_le _, ρ, G1, r.go g1, Same.refl _, post.mono g1.gg q⟩, ?_⟩
      rintro i m σ2 H2 ⟨rfl, hi, ρ2, G2, r2, s2, q2⟩
      obtain ⟨w1, w2⟩ := wk H2 G2 s2 r2.base.sub
      by_cases hlt : i < ds.length
      · right
        rw [drop_at hlt] at q2
        obtain ⟨hgo, hy⟩ := w1 i ds[i] (List.getElem?_eq_getElem hlt)
        refine ⟨hgo, fun σ' H' => ∃ ρ' G3, Rep X.K w σ' H' G3 ρ' ∧ Same G1 G3 ∧ post X.K w G1 Ds (loopF t F (ds.drop (i + 1)) ρ'), fun σ' H' ⟨ρ', G3, k1, k2, k3⟩ => ⟨ds.length - (i + 1), by omega, rfl, hlt, ρ', G3, k1, k2, k3⟩, fun x H3 y => ?_⟩
        obtain ⟨G3, g3, z3⟩ := hy x H3 y
        have r3 := r2.go g3
        have s3 := s2.trans g3.gg
        rw [loopF] at q2
        cases e1 : put t ds[i] ρ2 with
        | none =>
          rw [e1] at q2
          exact q2.elim
        | some ρ4 =>
          rw [e1] at q2
          obtain ⟨σ4, k1, k2⟩ := put_ok r3 e1 z3
          refine ⟨σ4, k1, ρ4, G3, k2, ?_⟩
          dsimp only at q2
          cases e2 : F ρ4 with
          | nx ρ5 =>
            rw [e2] at q2
            exact fun σ5 H5 G5 s5 r5 => ⟨ρ5, G5, r5, s3.trans s5, q2⟩
          | ct ρ5 =>
            rw [e2] at q2
            exact fun σ5 H5 G5 s5 r5 => ⟨ρ5, G5, r5, s3.trans s5, q2⟩
          | bk ρ5 =>
            rw [e2] at q2
            exact fun σ5 H5 G5 s5 r5 => q2 σ5 H5 G5 (s3.trans s5) r5
          | rt d ρ5 =>
            rw [e2] at q2
            exact fun v σ5 H5 G5 s5 => q2 v σ5 H5 G5 (s3.trans s5)
          | rf d ρ5 =>
            rw [e2] at q2
            exact fun a ho σ5 H5 G5 s5 => q2 a ho σ5 H5 G5 (s3.trans s5)
          | ex c zs ρ5 =>
            rw [e2] at q2
            exact fun σ5 H5 G5 d5 s5 => q2 σ5 H5 G5 d5 (s3.trans s5)
          | stuck =>
            rw [e2] at q2
            exact q2.elim
      · left
        have e : i = ds.length := by omega
        subst e
        rw [List.drop_length, loopF] at q2
        exact ⟨w2, q2 σ2 H2 G2 s2 r2⟩
end
end Fw
namespace Fw
open PySem PySem.Spec PyProof.Rows L2
structure Room (k : Nat) (A : Around) : Prop where
  r : L2.Room k A
  gd : A.guards = some []
theorem Room.hd {k : Nat} {A : Around} (m : Fw.Room k A) : A.handled = none := m.r.hd
theorem Room.mono {j k : Nat} {A : Around} (m : Fw.Room k A) (le : j ≤ k) : Fw.Room j A := ⟨m.r.mono le, m.gd⟩
theorem Room.deeper {k : Nat} {A : Around} (m : Fw.Room (k + 1) A) (ev : PySem.Env) : Fw.Room k (A.deeper ev) := ⟨m.r.deeper ev, m.gd⟩
theorem Room.depth {k : Nat} {A : Around} (m : Fw.Room k A) : A.depth < recursionLimit := m.r.depth
theorem Room.units {k : Nat} {A : Around} (m : Fw.Room k A) : A.units + 64 < cLine := m.r.units
structure FnOk (P : Program) (wd : World) (K : PySem.W.Frag) (mg : Str → Option Value) (base : Heap) (C : CXT) (k : Nat) (f : Addr) (fd : FuncData) (ps : List Str) (sp : Sp) : Prop where
  len : ∀ (xs : List V) (H : Hp) (Q : VK) (E : XK), sp xs H Q E → xs.length = ps.length
  run : ∀ (A : Around) (out : List PySem.Env) (st : Shared) (H : Hp) (ag : Args) (us : List Value) (xs : List V) (Q : VK) (E : XK), Fw.Room k A → Env0 P wd K mg base A out st H → BindsTo st fd ag (ps.zip us) →
    Vals xs us → sp xs H Q E → codeAny (model P wd) A (.call (.ref f) ag) (CR C out P wd H st Q E) st
theorem FnOk.mono {P wd K mg base C j k f fd ps sp} (m : Fw.FnOk P wd K mg base C j f fd ps sp) (le : j ≤ k) : Fw.FnOk P wd K mg base C k f fd ps sp :=
  ⟨m.len, fun A out st H ag us xs Q E rm => m.run A out st H ag us xs Q E (rm.mono le)⟩
theorem FnOk.imp {P wd K mg base C k f fd ps} {sp sq : Sp} (m : Fw.FnOk P wd K mg base C k f fd ps sp) (le : ∀ xs H Q E, sq xs H Q E → sp xs H Q E) : Fw.FnOk P wd K mg base C k f fd ps sq :=
  ⟨fun xs H Q E q => m.len xs H Q E (le _ _ _ _ q), fun A out st H ag us xs Q E rm e0 bd r q => m.run A out st H ag us xs Q E rm e0 bd r (le _ _ _ _ q)⟩
/-- a def by its body -/
theorem fn_by {C : CXT} {P : Program} {wd : World} {K : PySem.W.Frag} {mg : Str → Option Value} {base : Heap} {k : Nat} {fa : Addr} {nm qn : Str} {pr : Arguments} {bd : List Stmt} {sc : Scope} {dV kV doc pm cdv ct oc : Value} {an od : Option Addr}
    {osl : Array (Option Value)} {N ps : List Str} {sp : Sp} (lk : K.lookup fa = some ⟨oc, od, .func (PySem.W.fnOf nm qn pr bd sc dV kV doc pm an cdv ct), osl⟩) (cdk : PySem.W.codeIn K cdv qn = true) (S : FnScope N ps sc)
    (ln : ∀ xs H Q E, sp xs H Q E → xs.length = ps.length)
    (hbd : ∀ (A : Around) (out : List PySem.Env) (st : Shared) (H : Hp) (xs : List V) (Q : VK) (E : XK), Fw.Room k (A.deeper (envOfC qn sc st.heap.objs.size fa cdv)) → sp xs H Q E →
      ∃ t, PSs (cxOf C P wd K mg base N qn sc fa cdv A out st H E) bd t ∧ t { nx := fun _ H' => Q .non H', rt := Q } (start N xs) H) :
    Fw.FnOk P wd K mg base C (k + 1) fa (PySem.W.fnOf nm qn pr bd sc dV kV doc pm an cdv ct) ps sp := by
  constructor
  · exact ln
  intro A out st H ag us xs Q E rm en bnd rel want
  have hlen := ln _ _ _ _ want
  have kin : K.In st.heap := en.mod.kin.keeps fun b o e => (en.bs b o e).1
  have nolim : st.heap.NoLimit := en.mod.nolimit.keeps fun b o e => (en.bs b o e).1
  refine codeAny_call_function rm.depth (kin _ _ lk) rfl S.co S.gen rfl (PySem.W.codeRec_of kin cdk) (bnd _ _ _ _ ?_)
  refine wpAny_newFunctionEnv_cells S.kind (fun y hy => ?_) fun ev hev s1 cells => ?_
  · rcases S.par y.1 (List.of_mem_zip hy).1 with q | q
    · exact .inl q
    · exact .inr ⟨q, PySem.W.cellsFrom_some _ _ _ (.inl q)⟩
  cases hev
  refine ⟨nolim.keeps cells.toInCall.keep, codeAny_func ?_⟩
  obtain ⟨t, walked, told⟩ := hbd A out st H xs Q E (rm.deeper _) want
  have inv : Inv (cxOf C P wd K mg base N qn sc fa cdv A out st H E) [] (start N xs) H s1 := inv_start S rm.hd en hlen rel cells
  refine wpAny_mono (walked.run [] s1 (start N xs) H _ inv told) (fun fl s2 got => ?_) fun _ _ z => z
  cases fl with
  | ret u =>
    obtain ⟨v, σ2, H2, J, rv, q⟩ := got
    exact ⟨v, H2, J.os, J.bare, J.base, J.hok, rv, q⟩
  | next =>
    obtain ⟨σ2, H2, J, q⟩ := got
    exact ⟨V.non, H2, J.os, J.bare, J.base, J.hok, rfl, q⟩
  | brk =>
    obtain ⟨_, _, _, q⟩ := got
    exact q.elim
  | cont =>
    obtain ⟨_, _, _, q⟩ := got
    exact q.elim
section
variable {X : Cx} {C : CXT} {k n : Nat} {fa ca pa : Addr} {fd : FuncData} {ps ks : List Str} {sp : Sp} {dvs : List V} {ds : List Value} {E : XK} {x m : Str} {p pos apos : Pos} {e o : Expr} {es : List Expr} {kws : List Keyword} {ta : TE} {t tk : TA}
/-- behind a call: what its end says -/
theorem call_end {pins : List (Addr × Obj)} {σ : L2.St} {H : Hp} {s : Shared} {Q : VK} (hx : ∀ u s', C X.stack H s E u s' → X.xe u s') (I : Inv X pins σ H s) : ∀ (r : Result) (s' : Shared), CR C X.stack X.prog X.w H s Q E r s' →
    match r with
    | .ok (.ret u) => EP X pins σ Q u s'
    | .ok _ => False
    | .error u => X.xe u s'
  | .ok (.ret _), _, q => I.after q
  | .ok .next, _, q => q
  | .ok .brk, _, q => q
  | .ok .cont, _, q => q
  | .error _, _, q => hx _ _ q
theorem run_g {pins : List (Addr × Obj)} {σ : L2.St} {H : Hp} {s : Shared} {Q : VK} {us : List Value} {xs : List V} {ag : Args} (F : Fw.FnOk X.prog X.w X.K X.mg X.base C k fa fd ps sp) (rm : Fw.Room k X.A) (hx : ∀ u s', C X.stack H s E u s' → X.xe u s')
    (I : Inv X pins σ H s) (bd : BindsTo s fd ag (ps.zip us)) (rel : Vals xs us) (want : sp xs H Q E) : wpAny (model X.prog X.w) X.A (call (.ref fa) ag.pos ag.kw) (EP X pins σ Q) X.xe s := by
  refine wpAny_call (codeAny_mono (F.run X.A X.stack s H ag us xs Q E rm I.env0 bd rel want) fun r s' q => ?_)
  have z := call_end hx I r s' q
  cases r with
  | error u => exact z
  | ok fl => cases fl <;> exact z
theorem run_fn {pins : List (Addr × Obj)} {σ : L2.St} {H : Hp} {s : Shared} {Q : VK} {us : List Value} {xs : List V} (F : Fw.FnOk X.prog X.w X.K X.mg X.base C k fa fd ps sp) (rm : Fw.Room k X.A) (hb : Binds X.K fd ps ds) (hd : Vals dvs ds) (hx : Passes C X E)
    (I : Inv X pins σ H s) (rel : Vals xs us) (want : sp (xs ++ dvs) H Q E) : wpAny (model X.prog X.w) X.A (call (.ref fa) us) (EP X pins σ Q) X.xe s := by
  have rel2 := rel.append hd
  have hl : (us ++ ds).length = ps.length := rel2.length.symm.trans (F.len _ _ _ _ want)
  exact run_g (ag := ⟨us, []⟩) F rm (fun u s' q => hx pins σ H s u s' I q) I (hb s us I.kIn hl) rel2 want
theorem pe_call (F : Fw.FnOk X.prog X.w X.K X.mg X.base C k fa fd ps sp) (rm : Fw.Room k X.A) (hg : Gl X x) (hm : X.mg x = some (.ref fa)) (hk : PySem.W.keepIn X.K (.ref fa) = true) (hb : Binds X.K fd ps ds) (hd : Vals dvs ds) (hx : Passes C X E)
    (ha : PA X (e :: es) t) (nz : (x == ("__debug__" : Str)) = false := by decide) (he : starEach (e :: es) X.env = (false, eval e X.env) :: starEach es X.env := by rfl) (hp : (backTo pos (starEach es X.env)).any (·.1) = false := by rfl) :
    PE X (.Call (.Name x p) (e :: es) [] pos) (tCall sp dvs E t) := by
  constructor
  intro pins s σ H Q I want
  refine wpAny_Call_Name_kw (ld_glob I hg hm (PySem.W.callWith_K (h₀ := X.base) I.ok.mod.kin hk (thn (ha.run pos pins s σ H _ I want) fun us s1 got => ?_) he hp) nz)
  obtain ⟨xs, H1, I1, rel, q⟩ := got
  exact ⟨I1.kIn, Fw.run_fn F rm hb hd hx I1 rel q⟩
/-- f(e, .., k = v, ..) -/
theorem pe_callN {g : List Value → List Value → List Value} {gV : List V → List V → List V} (F : Fw.FnOk X.prog X.w X.K X.mg X.base C k fa fd ps sp) (rm : Fw.Room k X.A) (hg : Gl X x) (hm : X.mg x = some (.ref fa)) (hk : PySem.W.keepIn X.K (.ref fa) = true) (hb : KBn X.K fd ps n ks g gV) (hx : Passes C X E)
    (ha : PA X (e :: es) t) (hkw : PK X kws tk) (hall : (backToKw pos (keywordEach kws X.env)).all (·.1.isSome) = true := by rfl) (hks : (backToKw pos (keywordEach kws X.env)).filterMap (·.1) = ks := by rfl)
    (nz : (x == ("__debug__" : Str)) = false := by decide) (he : starEach (e :: es) X.env = (false, eval e X.env) :: starEach es X.env := by rfl)
    (hp : ((backTo pos (starEach (e :: es) X.env)).any (·.1) || (backToKw pos (keywordEach kws X.env)).any (·.1.isNone)) = false := by rfl) :
    PE X (.Call (.Name x p) (e :: es) kws pos) (tCallN n ks.length sp gV E t tk) := by
  constructor
  intro pins s σ H Q I want
  refine wpAny_Call_Name_kw (ld_glob I hg hm (PySem.W.callWith_KW (h₀ := X.base) I.ok.mod.kin hk hall (thn (ha.run pos pins s σ H _ I want) fun us s1 got => ?_) hp he) nz)
  obtain ⟨xs, H1, I1, rel, q⟩ := got
  refine thn (hkw.run pos pins s1 σ H1 _ I1 q) fun ws s2 got2 => ?_
  obtain ⟨zs, H2, I2, rz, l1, l2, q2⟩ := got2
  refine ⟨I2.kIn, ?_⟩
  rw [hks]
  exact run_g (ag := ⟨us, ks.zip ws⟩) F rm (fun u s' q3 => hx pins σ H2 s2 u s' I2 q3) I2 (hb.to s2 us ws I2.kIn (rel.length.symm.trans l1) (rz.length.symm.trans l2)) (hb.rel rel rz) q2
end
section
variable {P : Program} {wd : World} {K : PySem.W.Frag} {mg : Str → Option Value} {base : Heap}
theorem Fun_ok {x qn : Str} {st : Stmt} {fa : Addr} {fd : FuncData} {N ps : List Str} {k : Nat} {sp : Sp} (F : Fun K x qn st fa fd) (S : FnScope N ps (defScope st)) (ln : ∀ xs H Q E, sp xs H Q E → xs.length = ps.length)
    (hbd : ∀ (cdv : Value) (A : Around) (out : List PySem.Env) (s : Shared) (H : Hp) (xs : List V) (Q : VK) (E : XK), Fw.Room k (A.deeper (envOfC qn (defScope st) s.heap.objs.size fa cdv)) → sp xs H Q E →
      ∃ t, PSs (cxOf CX0 P wd K mg base N qn (defScope st) fa cdv A out s H E).nox (defBody st) t ∧ t { nx := fun _ H' => Q .non H', rt := Q } (start N xs) H) : Fw.FnOk P wd K mg base CX0 (k + 1) fa fd ps sp := by
  obtain ⟨_, _, _, _, _, _, cdv, _, _, rfl, h1, h2⟩ := F.ex
  refine fn_by h1 h2 S ln fun A out s H xs Q E rm want => ?_
  obtain ⟨t, walked, told⟩ := hbd cdv A out s H xs Q E rm want
  exact ⟨t, walked.nox, told⟩
theorem FunD_ok {C : CXT} {x qn : Str} {pr : Arguments} {bd : List Stmt} {sc : Scope} {dvs : List V} {kws : List (Str × V)} {fa : Addr} {fd : FuncData} {N ps : List Str} {k : Nat} {sp : Sp} (F : FunD K x qn pr bd sc dvs kws fa fd) (S : FnScope N ps sc) (ln : ∀ xs H Q E, sp xs H Q E → xs.length = ps.length)
    (hbd : ∀ (cdv : Value) (A : Around) (out : List PySem.Env) (s : Shared) (H : Hp) (xs : List V) (Q : VK) (E : XK), Fw.Room k (A.deeper (envOfC qn sc s.heap.objs.size fa cdv)) → sp xs H Q E →
      ∃ t, PSs (cxOf C P wd K mg base N qn sc fa cdv A out s H E) bd t ∧ t { nx := fun _ H' => Q .non H', rt := Q } (start N xs) H) : Fw.FnOk P wd K mg base C (k + 1) fa fd ps sp := by
  obtain ⟨_, _, _, _, _, _, _, cdv, _, _, rfl, h1, h2, _, _⟩ := F.ex
  exact fn_by h1 h2 S ln fun A out s H xs Q E rm want => hbd cdv A out s H xs Q E rm want
end
end Fw
namespace Fw
open PySem PySem.Spec PyProof.Rows L2
theorem wipe_get (σ : L2.St) : ∀ (vs : List Nat) (j : Nat), (wipe σ vs)[j]? = if j ∈ vs ∧ j < σ.length then some none else σ[j]?
  | [], j => by
    rw [if_neg (fun h => nomatch h.1)]
    rfl
  | v :: vs, j => by
    show ((wipe σ vs).set v none)[j]? = _
    have ih := wipe_get σ vs j
    have hl := wipe_length σ vs
    by_cases h : j = v
    · subst h
      by_cases hj : j < σ.length
      · rw [List.getElem?_set_self (by omega), if_pos ⟨List.mem_cons_self, hj⟩]
      · rw [List.getElem?_eq_none (by rw [List.length_set]; omega), if_neg (fun z => hj z.2), List.getElem?_eq_none (by omega)]
    · rw [List.getElem?_set_ne (Ne.symm h), ih]
      by_cases hm : j ∈ vs ∧ j < σ.length
      · rw [if_pos hm, if_pos ⟨List.mem_cons_of_mem _ hm.1, hm.2⟩]
      · rw [if_neg hm, if_neg fun z => hm ⟨(List.mem_cons.mp z.1).elim (fun q => absurd q h) id, z.2⟩]
theorem wipe_eq {σ σ' : L2.St} {vs : List Nat} (hl : σ'.length = σ.length) (h : ∀ j, j ∉ vs → σ'[j]? = (wipe σ vs)[j]?) : wipe σ' vs = wipe σ vs := by
  apply List.ext_getElem?
  intro j
  rw [wipe_get, wipe_get, hl]
  by_cases hm : j ∈ vs
  · by_cases hj : j < σ.length
    · rw [if_pos ⟨hm, hj⟩, if_pos ⟨hm, hj⟩]
    · rw [if_neg fun z => hj z.2, if_neg fun z => hj z.2, List.getElem?_eq_none (by omega), List.getElem?_eq_none (by omega)]
  · rw [if_neg fun z => hm z.1, if_neg fun z => hm z.1, h j hm, wipe_get, if_neg fun z => hm z.1]
theorem setL_keep : ∀ {is : List Nat} {vs : List V} {σ σ' : L2.St}, setL is vs σ = some σ' → σ'.length = σ.length ∧ ∀ j, j ∉ is → σ'[j]? = σ[j]?
  | [], [], σ, σ', h => by
    cases h
    exact ⟨rfl, fun _ _ => rfl⟩
  | i :: is, v :: vs, σ, σ', h => by
    obtain ⟨h1, h2⟩ := setL_keep (is := is) (vs := vs) (σ := σ.set i (some v)) h
    refine ⟨by rw [h1, List.length_set], fun j hj => ?_⟩
    rw [List.mem_cons, not_or] at hj
    rw [h2 j hj.2, List.getElem?_set_ne (Ne.symm hj.1)]
  | [], _ :: _, _, _, h => by cases h
  | _ :: _, [], _, _, h => by cases h
theorem sets_wipe {t : Tg} {K : PySem.W.Frag} {H : Hp} {v : V} {σ σ' : L2.St} (h : sets t K H v (wipe σ t.ixs) σ') : wipe σ' t.ixs = wipe σ t.ixs := by
  cases t with
  | nm i =>
    have h : σ' = (wipe σ [i]).set i (some v) := h
    show wipe σ' [i] = wipe σ [i]
    refine wipe_eq (by rw [h, List.length_set, wipe_length]) fun j hj => ?_
    rw [List.mem_singleton] at hj
    rw [h, List.getElem?_set_ne (Ne.symm hj)]
  | tp is =>
    obtain ⟨a, vs, _, _, e⟩ := h
    obtain ⟨h1, h2⟩ := setL_keep e
    exact wipe_eq (by rw [h1, wipe_length]) h2
def wipeR (ρ : Env) : List Nat → Env
  | [] => ρ
  | v :: vs => (wipeR ρ vs).set v .no
section
variable {K : PySem.W.Frag} {w : Wd} {σ : L2.St} {G G' H H' : Hp} {ρ : Env}
theorem Rep.setNo (r : Rep K w σ H G ρ) (i : Nat) (x : Option V) : Rep K w (σ.set i x) H G (ρ.set i .no) := by
  have hl := r.len
  have ns : ∀ (j : Nat) (k : Bool) (t : OT), (ρ.set i .no)[j]? = some (.tre k t) → j ≠ i ∧ ρ[j]? = some (.tre k t) := fun j k t hj => by
    by_cases q : j = i
    · subst q
      cases (getset_self hj).1
    · rw [getset_ne q] at hj
      exact ⟨q, hj⟩
  refine ⟨r.base, by rw [List.length_set, List.length_set, hl], fun j e hj => ?_, fun j ds hj => ?_, fun j c ds hj => ?_, fun j k ds es a h1 h2 h3 h4 => ?_, r.tre.move (fun j k t hj => ⟨(ns j k t hj).2, getset_ne (ns j k t hj).1⟩) (fun b h1 h2 h3 h4 => ⟨rfl, h2, fun k o hk => ?_⟩) (Same.refl _), xc_set r.xc (fun z => nomatch z)⟩
  · by_cases q : j = i
    · subst q
      cases (getset_self hj).1
    · rw [getset_ne q] at hj ⊢
      exact r.sh j e hj
  · by_cases q : j = i
    · subst q
      cases (getset_self hj).1
    · rw [getset_ne q] at hj ⊢
      exact r.own j ds hj
  · by_cases q : j = i
    · subst q
      cases (getset_self hj).1
    · rw [getset_ne q] at hj ⊢
      exact r.slf j c ds hj
  · by_cases q : j = i
    · subst q
      cases (getset_self h1).1
    · by_cases q' : k = i
      · subst q'
        cases (getset_self h2).1
      · rw [getset_ne q] at h1 h3
        rw [getset_ne q'] at h2 h4
        exact r.dis j k ds es a h1 h2 h3 h4
  · by_cases q : k = i
    · subst q
      cases (getset_self hk).1
    · rw [getset_ne q] at hk ⊢
      exact h4 k o hk
theorem Rep.wipe (r : Rep K w σ H G ρ) : ∀ vs : List Nat, Rep K w (L2.wipe σ vs) H G (wipeR ρ vs)
  | [] => r
  | v :: vs => (Rep.wipe r vs).setNo v none
/-- a is in no tree of one's own -/
def NoTre (K : PySem.W.Frag) (w : Wd) (σ : L2.St) (H : Hp) (ρ : Env) (a : Addr) : Prop :=
  ∀ (i : Nat) (k : Bool) (t : OT), ρ[i]? = some (.tre k t) → ∀ (v : V) (G : Hp) (fp : List Addr), σ[i]? = some (some v) → OAt K w.cl H G t v fp → a ∉ fp
theorem Rep.noTre (r : Rep K w σ H G ρ) {a : Addr} (h : H a = none) : ∀ H2 : Hp, Same H H2 → NoTre K w σ H2 ρ a := fun H2 s i k t hi v G2 f hv hf hm => by
  obtain ⟨fp, q⟩ := r.tre
  obtain ⟨v', e1, e2, _⟩ := q i k t hi
  rw [hv] at e1
  cases e1
  rw [e2.uniq s hf] at hm
  exact e2.at a hm h
/-- an object of nobody's is changed -/
theorem Rep.aside (r : Rep K w σ H G ρ) {a : Addr} {o : HO} (hg : G a = none) (h0 : w.H0 a = none) (hn : ∀ (i : Nat) (ds : Ow), ρ[i]? = some (.own ds) → σ[i]? ≠ some (some (.ref a))) (hin : NoTre K w σ H ρ a) : Rep K w σ (upd H a o) G ρ := by
  refine ⟨⟨fun c u hc => ?_, r.base.gext, fun c u hc => ?_, r.base.new⟩, r.len, r.sh, fun j fs hj => ?_, r.slf, r.dis, ?_, r.xc⟩
  · have : c ≠ a := fun z => by
      rw [z, h0] at hc
      cases hc
    rw [upd_ne this]
    exact r.base.ext _ _ hc
  · have : c ≠ a := fun z => by
      rw [z, hg] at hc
      cases hc
    rw [upd_ne this]
    exact r.base.sub _ _ hc
  · obtain ⟨b, vs', k1, k2, k3, k4, k5⟩ := r.own j fs hj
    have : b ≠ a := fun z => by
      subst z
      exact hn j fs hj k1
    exact ⟨b, vs', k1, by rw [upd_ne this]; exact k2, k3, k4, k5⟩
  · obtain ⟨fp, q⟩ := r.tre
    refine ⟨fp, fun i k t hi => ?_⟩
    obtain ⟨v, e1, e2, e3, e4, e5⟩ := q i k t hi
    have hm := hin i k t hi v G (fp i) e1 e2
    exact ⟨v, e1, e2.move (Same.refl _) fun b hb => upd_ne fun z => hm (z ▸ hb), e3, e4, e5⟩
theorem Grow.aside {Hs Gs : Hp} (g : Grow Hs Gs H G) {a : Addr} {o : HO} (h : Hs a = none) (hg : G a = none) : Grow Hs Gs (upd H a o) G := by
  refine ⟨fun c u hc => ?_, g.gg, fun c u hc => ?_, g.new⟩
  · rw [upd_ne (ne_of_none hc h)]
    exact g.hh _ _ hc
  · rw [upd_ne (ne_of_none hc hg)]
    exact g.sub _ _ hc
theorem Grow.still (g : Grow H G H' G') {a : Addr} {o : HO} (h : H a = some o) (hg : G a = none) : G' a = none := by
  cases q : G' a with
  | none => rfl
  | some u =>
    rcases g.new a (by rw [q]; exact fun z => nomatch z) with z | z
    · exact absurd hg z
    · rw [h] at z
      cases z
end
def compL (tg : Tg) (t : Tf) (f : Ef) : List D → Env → Option (List D)
  | [], _ => some []
  | d :: ds, ρ => (put tg d ρ).bind fun ρ1 => (t ρ1).bind fun b => if b = true then (f ρ1).bind fun e => (compL tg t f ds ρ).map fun r => e :: r else compL tg t f ds ρ
def aComp (fs : Af) (tg : Tg) (t : Tf) (f : Ef) : Af := fun ρ => (fs ρ).bind fun ds => if ds.length ≤ 16777216 then compL tg t f ds (wipeR ρ tg.ixs) else none
def tYesF : Tf := fun _ => some true
theorem PTs.imp {X : Cx} {ifs : List Expr} {t t' : TT} (h : PTs X ifs t) (hi : ∀ σ H Q, t' σ H Q → t σ H Q) : PTs X ifs t' := ⟨fun pins s σ H Q I q => h.run pins s σ H Q I (hi _ _ _ q)⟩
abbrev VTs (w : Wd) (X : Cx) (ifs : List Expr) (t : Tf) : Prop := PTs X ifs (tT X.K w t)
section
variable {X : Cx} {w : Wd} {e : Expr} {f : Ef} {fs : Af} {t : Tf} {tg : Tg} {pos : Pos} {K : PySem.W.Frag}
theorem vts_nil : VTs w X [] tYesF := PTs.imp pts_nil fun σ H Q ⟨ρ, G, b, r, hf, q⟩ => by
  cases hf
  exact q H G (Grow.refl r.base.sub)
theorem comp_imp : ∀ σ H Q, tF K w (aComp fs tg t f) σ H Q → tLc (tI K w fs) (fun v σ H Q => ∃ σ', sets tg K H v σ σ' ∧ Q σ' H) (tT K w t) (tP K w f) tg.ixs σ H Q := fun σ H Q ⟨ρ, G, zs, r, hf, q⟩ => by
  obtain ⟨ds, e0, hf⟩ := bind_some2 hf
  split at hf
  case isFalse => cases hf
  rename_i hlen
  refine ⟨ρ, G, ds, r, e0, fun J H1 G1 g1 wk D hD => ?_⟩
  have hDH : H D = none := g1.hh.free hD
  have hGD : G1 D = none := g1.sub.free hD
  have h0D : w.H0 D = none := r.base.ext.free hDH
  have nown : ∀ (i : Nat) (ds : Ow), ρ[i]? = some (.own ds) → σ[i]? ≠ some (some (.ref D)) := fun i ds hi e => by
    obtain ⟨b, us, e1, e2, _⟩ := r.own i ds hi
    rw [e] at e1
    cases e1
    rw [hDH] at e2
    cases e2
  have nin := r.noTre hDH
  refine ⟨fun i m H2 => m = ds.length - i ∧ i ≤ ds.length ∧ ∃ G2 us es rest, Rep K w σ H2 G2 ρ ∧ Same G1 G2 ∧ Grow H G H2 G2 ∧ H2 D = some (.lst us) ∧ G2 D = none ∧ Dens K w.cl G2 es us ∧ es.length ≤ i ∧ compL tg t f (ds.drop i) (wipeR ρ tg.ixs) = some rest ∧ es ++ rest = zs,
    ⟨ds.length, rfl, Nat.zero_le _, G1, [], [], zs, (r.go g1).aside hGD h0D nown (nin H1 g1.hh), Same.refl _, g1.aside hDH hGD, upd_same, hGD, Dens.nil, Nat.zero_le _, hf, rfl⟩, ?_⟩
  rintro i m H2 ⟨rfl, hi, G2, us, es, rest, r2, s2, gr2, hD2, hG2, d2, le2, c2, z2⟩
  obtain ⟨w1, w2⟩ := wk H2 G2 s2 r2.base.sub
  by_cases hlt : i < ds.length
  · right
    rw [drop_at hlt, compL] at c2
    obtain ⟨ρ4, e1, c2⟩ := bind_some2 c2
    obtain ⟨b, e2, c2⟩ := bind_some2 c2
    obtain ⟨hgo, hy⟩ := w1 i ds[i] (List.getElem?_eq_getElem hlt)
    refine ⟨hgo, fun H' => ∃ G2 us es rest, Rep K w σ H' G2 ρ ∧ Same G1 G2 ∧ Grow H G H' G2 ∧ H' D = some (.lst us) ∧ G2 D = none ∧ Dens K w.cl G2 es us ∧ es.length ≤ i + 1 ∧ compL tg t f (ds.drop (i + 1)) (wipeR ρ tg.ixs) = some rest ∧ es ++ rest = zs,
      fun H' k => ⟨ds.length - (i + 1), by omega, rfl, hlt, k⟩, fun x H3 y => ?_⟩
    obtain ⟨G3, g3, z3⟩ := hy x H3 y
    have r3 := r2.go g3
    obtain ⟨σ4, k1, k2⟩ := put_ok (r3.wipe tg.ixs) e1 z3
    refine ⟨σ4, k1, sets_wipe k1, seqT k2 e2 fun H4 G4 g4 r4 => ?_⟩
    have g24 := g3.trans g4
    cases b with
    | false =>
      refine iteF ⟨G4, us, es, rest, r2.go g24, s2.trans g24.gg, gr2.trans g24, g24.hh _ _ hD2, g24.still hD2 hG2, d2.mono g24.gg, by omega, ?_, z2⟩
      rw [if_neg Bool.false_ne_true] at c2
      exact c2
    | true =>
      rw [if_pos rfl] at c2
      obtain ⟨e, e3, c2⟩ := bind_some2 c2
      obtain ⟨rest', e4, c2⟩ := map_some2 c2
      refine iteT (seqE r4 e3 fun yv H5 G5 g5 r5 z5 => ?_)
      have g25 := g24.trans g5
      have hG5 := g25.still hD2 hG2
      refine ⟨us, g25.hh _ _ hD2, line_lt (by rw [d2.length]; omega), G5, us ++ [yv], es ++ [e], rest', (r2.go g25).aside hG5 h0D nown (nin H5 (gr2.trans g25).hh), s2.trans g25.gg, (gr2.trans g25).aside hDH hG5, upd_same, hG5, (d2.mono g25.gg).append (Dens.cons z5 Dens.nil), ?_, e4, ?_⟩
      · rw [List.length_append, List.length_singleton]
        omega
      · rw [← z2, ← c2, List.append_assoc]
        rfl
  · left
    have e : i = ds.length := by omega
    subst e
    rw [List.drop_length, compL] at c2
    cases c2
    rw [List.append_nil] at z2
    subst z2
    exact ⟨w2, q D us H2 G2 gr2 hDH hD2 hG2 d2⟩
end
section
variable {X : Cx} {w : Wd} {elt tgx iter : Expr} {ifs : List Expr} {scope : Scope} {own : List (Str × Nat)} {pos : Pos} {f : Ef} {fs : Af} {t : Tf} {tg : Tg}
theorem vf_comp (hc : X.calm = true) (hN : X.N.Nodup) (hi : VI w X tgx iter fs) (ok : BlkOk X.N X.env.scope scope own) (ho : own.map (·.2) = tg.ixs)
    (hg : ∀ (s : Shared) (H : Hp) (C : Addr) (cl : List (Str × Addr)) (fp : List Addr), VG w (X.blk s H scope (compEnvC scope cl C X.env) fp) tgx tg) (ht : ∀ (s : Shared) (H : Hp) (C : Addr) (cl : List (Str × Addr)) (fp : List Addr), VTs w (X.blk s H scope (compEnvC scope cl C X.env) fp) ifs t)
    (he : ∀ (s : Shared) (H : Hp) (C : Addr) (cl : List (Str × Addr)) (fp : List Addr), VE w (X.blk s H scope (compEnvC scope cl C X.env) fp) elt f) (hs : ∀ x, foldedSetIterable iter X.env x = pure x := by intro _; rfl) :
    VF w X (.ListComp elt [⟨tgx, iter, ifs, 0⟩] scope pos) (aComp fs tg t f) :=
  PE.imp (pe_lc hc hN hi ok hg ht he hs) fun σ H Q h => by
    rw [ho]
    exact comp_imp σ H Q h
end
def wNone : WX := fun _ _ _ _ => False
inductive Ret where
  | ok (d : D) | fr (o : Ow) | stuck
def retOf : Out → Ret
  | .rt d _ => .ok d
  | .rf ds _ => .fr ds
  | .nx _ => .ok .non
  | _ => .stuck
def startR (n : Nat) (ds : List D) : Env := ds.map .sh ++ List.replicate (n - ds.length) .no
def runF (n : Nat) (F : Sf) (ds : List D) : Ret := retOf (F (startR n ds))
def retP (K : PySem.W.Frag) (cl : Nat → ClsT) (G H : Hp) (Q : VK) : Ret → Prop
  | .ok d => ∀ v H' G', Grow H G H' G' → Den K cl G' d v → Q v H'
  | .fr o => ∀ a ho H' G', Grow H G H' G' → H a = none → H' a = some ho → G' a = none → OwOk K cl G' o ho → Q (.ref a) H'
  | .stuck => False
/-- a def's promise by its mirror -/
def spF (K : PySem.W.Frag) (cl : Nat → ClsT) (np : Nat) (F : List D → Ret) : Sp := fun vs H Q _ => ∃ G ds, Same G H ∧ Dens K cl G ds vs ∧ ds.length = np ∧ retP K cl G H Q (F ds)
theorem start_rep {K : PySem.W.Frag} {cl : Nat → ClsT} {N : List Str} {G H : Hp} {ds : List D} {vs : List V} {sf : Nat → Addr} (s : Same G H) (h : Dens K cl G ds vs) (hl : ds.length ≤ N.length) : Rep K ⟨cl, G, H, sf, wNone, 0⟩ (start N vs) H G (startR N.length ds) := by
  have hv := h.length
  have look : ∀ (i : Nat) (c : Cell), (startR N.length ds)[i]? = some c → c ≠ .no → ∃ d, c = .sh d ∧ ds[i]? = some d := fun i c hc hn => by
    unfold startR at hc
    by_cases hi : i < ds.length
    · rw [List.getElem?_append_left (by simpa using hi), List.getElem?_map, List.getElem?_eq_getElem hi] at hc
      cases hc
      exact ⟨_, rfl, List.getElem?_eq_getElem hi⟩
    · rw [List.getElem?_append_right (by simpa using hi), List.getElem?_replicate] at hc
      split at hc
      · cases hc
        exact absurd rfl hn
      · cases hc
  refine ⟨⟨Same.refl _, Same.refl _, s, fun b hb => .inl hb⟩, ?_, fun i d hi => ?_, fun i es hi => ?_, fun i c es hi => ?_, fun i j es fs a hi _ _ _ => ?_, ⟨fun _ => [], fun i k t hi => ?_⟩, fun i hi => by
    obtain ⟨d', e1, _⟩ := look i _ hi (fun z => nomatch z)
    cases e1⟩
  · unfold L2.start startR
    rw [List.length_append, List.length_append, List.length_map, List.length_map, List.length_replicate, List.length_replicate, hv]
  · obtain ⟨d', e1, e2⟩ := look i _ hi (fun z => nomatch z)
    cases e1
    obtain ⟨v, k1, k2⟩ := h.get' e2
    refine ⟨v, ?_, k2⟩
    unfold L2.start
    have hlt := (List.getElem?_eq_some_iff.mp k1).1
    rw [List.getElem?_append_left (by simpa using hlt), List.getElem?_map, k1]
    rfl
  · obtain ⟨d', e1, _⟩ := look i _ hi (fun z => nomatch z)
    cases e1
  · obtain ⟨d', e1, _⟩ := look i _ hi (fun z => nomatch z)
    cases e1
  · obtain ⟨d', e1, _⟩ := look i _ hi (fun z => nomatch z)
    cases e1
  · obtain ⟨d', e1, _⟩ := look i _ hi (fun z => nomatch z)
    cases e1
theorem body_run {X : Cx} {cl : Nat → ClsT} {G H : Hp} {ds : List D} {vs : List V} {N : List Str} {F : Sf} {Q : VK} {sf : Nat → Addr} (s : Same G H) (h : Dens X.K cl G ds vs) (hl : ds.length ≤ N.length) (q : retP X.K cl G H Q (runF N.length F ds)) :
    tS X.K ⟨cl, G, H, sf, wNone, 0⟩ F { nx := fun _ H' => Q .non H', rt := Q } (start N vs) H := by
  refine ⟨_, G, start_rep s h hl, ?_⟩
  unfold runF at q
  cases e : F (startR N.length ds) with
  | nx ρ =>
    rw [e] at q
    exact fun σ' H' G' s' r' => q .non H' G' r'.base.grow mk_non
  | bk ρ =>
    rw [e] at q
    exact q.elim
  | ct ρ =>
    rw [e] at q
    exact q.elim
  | rt d _ =>
    rw [e] at q
    exact fun v σ' H' G' _ r' z => q v H' G' r'.base.grow z
  | rf ds _ =>
    rw [e] at q
    exact fun a vs σ' H' G' _ r' _ h0 h1 h2 z => q a vs H' G' r'.base.grow h0 h1 h2 z
  | ex c zs _ =>
    rw [e] at q
    exact q.elim
  | stuck =>
    rw [e] at q
    exact q.elim
theorem fn_ok {P : Program} {wd : World} {K : PySem.W.Frag} {mg : Str → Option Value} {base : Heap} {cl : Nat → ClsT} {x qual : Str} {st : Stmt} {f : Addr} {fd : FuncData} {N ps : List Str} {k : Nat} {F : Sf} (Fn : Fun K x qual st f fd) (S : FnScope N ps (defScope st))
    (body : ∀ (cdv : Value) (A : Around) (outer : List PySem.Env) (s : Shared) (H : Hp) (E : XK) (G0 H0 : Hp) (sf : Nat → Addr), Room k (A.deeper (envOfC qual (defScope st) s.heap.objs.size f cdv)) →
      VSs ⟨cl, G0, H0, sf, wNone, 0⟩ (cxOf CX0 P wd K mg base N qual (defScope st) f cdv A outer s H E).nox (defBody st) F) :
    FnOk P wd K mg base CX0 (k + 1) f fd ps (spF K cl ps.length (runF N.length F)) := by
  refine Fun_ok Fn S (fun vs H Q E h => ?_) (fun cdv A outer s H vs Q E hr h => ?_)
  · obtain ⟨G, ds, _, h2, h3, _⟩ := h
    rw [h2.length, h3]
  · obtain ⟨G, ds, h1, h2, h3, h4⟩ := h
    refine ⟨_, body cdv A outer s H E G H (fun _ => 0) hr, ?_⟩
    have hpl : ps.length ≤ N.length := by
      have := congrArg List.length S.pre
      rw [List.length_take] at this
      omega
    exact body_run (X := (cxOf CX0 P wd K mg base N qual (defScope st) f cdv A outer s H E).nox) h1 h2 (by omega) h4
def toD : Ret → Option D
  | .ok d => some d
  | .fr o => some o.toD
  | .stuck => none
def toFr : Ret → Option Ow
  | .fr o => some o
  | _ => none
def eCall (F : List D → Ret) (fs : Af) : Ef := fun ρ => (fs ρ).bind fun ds => toD (F ds)
def aCall (F : List D → Ret) (fs : Af) : Env → Option Ow := fun ρ => (fs ρ).bind fun ds => toFr (F ds)
/-- a def of the text, ready to be called -/
structure Def (P : Program) (wd : World) (K : PySem.W.Frag) (mg : Str → Option Value) (base : Heap) (cl : Nat → ClsT) (k : Nat) (x : Str) (np : Nat) (F : List D → Ret) : Prop where
  ex : ∃ (f : Addr) (fd : FuncData) (ps : List Str), mg x = some (.ref f) ∧ PySem.W.keepIn K (.ref f) = true ∧ Binds K fd ps [] ∧ FnOk P wd K mg base CX0 k f fd ps (spF K cl np F)
theorem Def.mono {P : Program} {wd : World} {K : PySem.W.Frag} {mg : Str → Option Value} {base : Heap} {cl : Nat → ClsT} {j k : Nat} {x : Str} {np : Nat} {F : List D → Ret} (d : Def P wd K mg base cl j x np F) (h : j ≤ k) : Def P wd K mg base cl k x np F :=
  let ⟨f, fd, ps, a, b, c, o⟩ := d.ex
  ⟨f, fd, ps, a, b, c, o.mono h⟩
section
variable {X : Cx} {w : Wd} {e : Expr} {es : List Expr} {fs : Af} {pos p : Pos} {x : Str} {k np : Nat} {F : List D → Ret}
theorem retP_of {K : PySem.W.Frag} {cl : Nat → ClsT} {G H : Hp} {Q : VK} {r : Ret} {d : D} (h : toD r = some d) (q : ∀ v H' G', Grow H G H' G' → Den K cl G' d v → Q v H') : retP K cl G H Q r := by
  cases r with
  | ok z =>
    cases h
    exact q
  | fr ds =>
    cases h
    intro a vs H' G' g h0 h1 h2 h3
    exact q (.ref a) H' _ (fresh_in g h0 h1 h2) ((h3.mono (same_upd h2)).den upd_same)
  | stuck => cases h
theorem ve_call (d : Def X.prog X.w X.K X.mg X.base w.cl k x np F) (hr : Room k X.A) (hg : Gl X x) (ha : VA w X (e :: es) fs) (hn : ∀ ρ ds, fs ρ = some ds → ds.length = np)
    (hdb : (x == ("__debug__" : Str)) = false := by decide) (he : starEach (e :: es) X.env = (false, eval e X.env) :: starEach es X.env := by rfl) (hpl : (backTo pos (starEach es X.env)).any (·.1) = false := by rfl) :
    VE w X (.Call (.Name x p) (e :: es) [] pos) (eCall F fs) := by
  obtain ⟨f, fd, ps, a, b, c, o⟩ := d.ex
  refine PE.imp (pe_call (E := E0) o hr hg a b c .nil pass0 ha hdb he hpl) fun σ H Q ⟨ρ, G, z, r, hf, q⟩ => ?_
  obtain ⟨ds, e1, e2⟩ := bind_some2 hf
  refine ⟨ρ, G, ds, r, e1, fun vs H1 G1 g1 z1 => ?_⟩
  show spF _ _ _ _ (vs ++ []) _ _ _
  rw [List.append_nil]
  exact ⟨G1, ds, g1.sub, z1, hn ρ ds e1, retP_of e2 fun v H' G' g' z' => q v H' G' (g1.trans g') z'⟩
/-- the number of written arguments -/
def ALen (fs : Af) (n : Nat) : Prop := ∀ ρ ds, fs ρ = some ds → ds.length = n
theorem alen_nil : ALen aNil 0 := fun ρ ds h => by
  cases h
  rfl
theorem alen_cons {f : Ef} {n : Nat} (h : ALen fs n) : ALen (aCons f fs) (n + 1) := fun ρ ds q => by
  obtain ⟨d, r, _, e2, rfl⟩ := aCons_some q
  rw [List.length_cons, h ρ r e2]
end
end Fw
namespace Fw
open PySem PySem.Spec PyProof.Rows L2
/-- the built-ins that the text reads are not shadowed -/
structure Bt (mg : Str → Option Value) : Prop where
  len : mg "len" = none
  int : mg "int" = none
  bool : mg "bool" = none
  str : mg "str" = none
  range : mg "range" = none
  isinstance : mg "isinstance" = none
  tuple : mg "tuple" = none
  list : mg "list" = none
  dict : mg "dict" = none
  set : mg "set" = none
  max : mg "max" = none
  min : mg "min" = none
  sum : mg "sum" = none
  any : mg "any" = none
  all : mg "all" = none
  sorted : mg "sorted" = none
  enumerate : mg "enumerate" = none
  zip : mg "zip" = none
  reversed : mg "reversed" = none
  repr : mg "repr" = none
/-- a def of the text stands under its name -/
structure At (K : PySem.W.Frag) (mg : Str → Option Value) (x : Str) (st : Stmt) : Prop where
  ex : ∃ (f : Addr) (fd : FuncData), mg x = some (.ref f) ∧ Fun K x x st f fd
abbrev XX (P : Program) (wd : World) (K : PySem.W.Frag) (mg : Str → Option Value) (base : Heap) (N : List Str) (qual : Str) (sc : Scope) (f : Addr) (cdv : Value) (A : Around) (outer : List PySem.Env) (s : Shared) (H : Hp) (E : XK) : Cx :=
  (cxOf CX0 P wd K mg base N qual sc f cdv A outer s H E).nox
section
variable {P : Program} {wd : World} {K : PySem.W.Frag} {mg : Str → Option Value} {base : Heap} {cl : Nat → ClsT} {x : Str} {st : Stmt} {N ps : List Str} {k : Nat}
theorem def_of {F : Sf} (a : At K mg x st) (S : FnScope N ps (defScope st)) (hb : ∀ f fd, Fun K x x st f fd → Binds K fd ps [])
    (body : ∀ (f : Addr) (cdv : Value) (A : Around) (outer : List PySem.Env) (s : Shared) (H : Hp) (E : XK) (G0 H0 : Hp) (sf : Nat → Addr), Room k (A.deeper (envOfC x (defScope st) s.heap.objs.size f cdv)) →
      VSs ⟨cl, G0, H0, sf, wNone, 0⟩ (XX P wd K mg base N x (defScope st) f cdv A outer s H E) (defBody st) F) : Def P wd K mg base cl (k + 1) x ps.length (runF N.length F) := by
  obtain ⟨f, fd, e, Fn⟩ := a.ex
  exact ⟨f, fd, ps, e, Fn.kp, hb f fd Fn, fn_ok Fn S fun cdv A outer s H E G0 H0 sf hr => body f cdv A outer s H E G0 H0 sf hr⟩
end
section
variable {X : Cx} {w : Wd} {e ea eb ec : Expr} {es : List Expr} {f g h : Ef} {fs : Af} {pos p : Pos} {x : Str} {K : PySem.W.Frag} {cl : Nat → ClsT}
theorem ve_ty {n : String} (hg : Gl X x) (hm : X.mg x = none) (hv : bootBuiltins x = some (.type n)) (hn : x ≠ "__name__" := by decide) (hd : (x == ("__debug__" : Str)) = false := by decide) : VE w X (.Name x pos) (eC (.ty n)) :=
  PE.imp (pe_bltn (v := .ty n) hg hm hv rfl hn hd) fun σ H Q ⟨ρ, G, d, r, hf, q⟩ => by
    cases hf
    exact q _ H G (Grow.refl r.base.sub) mk_ty
def oMul (d e : D) : Option D := oMulI d e
def rMulD (K : PySem.W.Frag) : R2 := rI CMul fun i j => .int (i * j)
theorem op_mulD : OpR X (binaryOp .Mult) (rMulD X.K) := op_mul
theorem r_mul : Res2 K cl (rMulD K) oMul := r_mulI
end
end Fw
namespace Fw
open PySem PySem.Spec PyProof.Rows L2
section
variable {X : Cx} {w : Wd} {e o : Expr} {es : List Expr} {f g : Ef} {fs : Af} {pos pos' p : Pos} {x fn : Str} {c i j : Nat} {names : List Str}
/-- self.f = e, self an object of one's own -/
def sFst (i c j : Nat) (f : Ef) : Sf := fun ρ => match cellAt ρ i, f ρ with
  | .own (.obj c' ds), some d => if c' = c then (if ds.length = j then .nx (ρ.set i (.own (.obj c (ds ++ [d])))) else if j < ds.length then .nx (ρ.set i (.own (.obj c (ds.set j d)))) else .stuck) else .stuck
  | _, _ => .stuck
def dele (H : Hp) (a : Addr) : Hp := fun b => if b = a then none else H b
def spI (K : PySem.W.Frag) (cl : Nat → ClsT) (c np : Nat) (F : List D → Option (List D)) : Sp := fun vs H Q _ => ∃ G ds x dx us, vs = .ref x :: us ∧ H x = some (.ins (cl c).addr dx []) ∧ G x = none ∧ Same G H ∧ Dens K cl G ds us ∧ ds.length = np ∧
  match F ds with
  | none => False
  | some zs => ∀ H' G' dx' ws, Grow (dele H x) G H' G' → G' x = none → H' x = some (.ins (cl c).addr dx' ((cl c).names.zip ws)) → Dens K cl G' zs ws → Q .non H'
end
end Fw
namespace Fw
open PySem PySem.Spec PyProof.Rows L2
/-- a class ready to be called -/
structure MkD (P : Program) (wd : World) (K : PySem.W.Frag) (mg : Str → Option Value) (base : Heap) (cl : Nat → ClsT) (k c : Nat) (x : Str) (np : Nat) (F : List D → Option (List D)) : Prop where
  ex : ∃ (f : Addr) (fd : FuncData) (ps : List Str), mg x = some (.ref (cl c).addr) ∧ Mk K (cl c).addr f ∧ Binds K fd ps [] ∧ FnOk P wd K mg base CX0 k f fd ps (spI K cl c np F)
structure PrD (P : Program) (wd : World) (K : PySem.W.Frag) (mg : Str → Option Value) (base : Heap) (cl : Nat → ClsT) (k c : Nat) (fn : Str) (F : List D → Ret) : Prop where
  ex : ∃ (p g : Addr) (fd : FuncData) (ps : List Str), PropOf K (cl c).addr fn p g ∧ Binds K fd ps [] ∧ FnOk P wd K mg base CX0 k g fd ps (spF K cl 1 F)
structure MtD (P : Program) (wd : World) (K : PySem.W.Frag) (mg : Str → Option Value) (base : Heap) (cl : Nat → ClsT) (k c : Nat) (m : Str) (np : Nat) (F : List D → Ret) : Prop where
  ex : ∃ (f : Addr) (fd : FuncData) (ps : List Str), Meth K (cl c).addr m f ∧ Binds K fd ps [] ∧ FnOk P wd K mg base CX0 k f fd ps (spF K cl np F)
theorem MkD.mono {P wd K mg base cl j k c x np F} (d : MkD P wd K mg base cl j c x np F) (h : j ≤ k) : MkD P wd K mg base cl k c x np F :=
  let ⟨f, fd, ps, a, b, e, o⟩ := d.ex
  ⟨f, fd, ps, a, b, e, o.mono h⟩
theorem PrD.mono {P wd K mg base cl j k c x F} (d : PrD P wd K mg base cl j c x F) (h : j ≤ k) : PrD P wd K mg base cl k c x F :=
  let ⟨p, f, fd, ps, a, b, o⟩ := d.ex
  ⟨p, f, fd, ps, a, b, o.mono h⟩
theorem MtD.mono {P wd K mg base cl j k c x np F} (d : MtD P wd K mg base cl j c x np F) (h : j ≤ k) : MtD P wd K mg base cl k c x np F :=
  let ⟨f, fd, ps, a, b, o⟩ := d.ex
  ⟨f, fd, ps, a, b, o.mono h⟩
section
variable {X : Cx} {w : Wd} {e o : Expr} {es : List Expr} {f g : Ef} {fs : Af} {pos pos' apos p : Pos} {x fn m : Str} {c i j k np : Nat} {names : List Str}
def aMake (c : Nat) (F : List D → Option (List D)) (fs : Af) : Env → Option Ow := fun ρ => (fs ρ).bind fun ds => (F ds).map fun zs => .obj c zs
def scal : D → Option D
  | .int i => some (.int i)
  | .bl b => some (.bl b)
  | .str x => some (.str x)
  | .non => some .non
  | _ => none
def eProp (c : Nat) (F : List D → Ret) (f : Ef) : Ef := fun ρ => (f ρ).bind fun d => match d with
  | .ins c' ds => if c' = c then (toD (F [.ins c ds])).bind scal else none
  | _ => none
def eMeth (c : Nat) (F : List D → Ret) (f : Ef) (fs : Af) : Ef := fun ρ => match f ρ with
  | some (.ins c' ds) => if c' = c then (fs ρ).bind fun zs => toD (F (.ins c ds :: zs)) else none
  | _ => none
def oLenO (c : Nat) (F : List D → Ret) : List D → Option D
  | [.ins c' ds] => if c' = c then (toD (F [.ins c ds])).bind fun z => match z with
    | .int n => if 0 ≤ n ∧ n < 9223372036854775808 then some (.int n) else none
    | _ => none
    else none
  | _ => none
end
end Fw
namespace Fw
open PySem PySem.Spec PyProof.Rows L2
end Fw
namespace Fw
open PySem PySem.Spec PyProof.Rows L2
end Fw
namespace Fw
open PySem PySem.Spec PyProof.Rows L2
def spLaw (K : PySem.W.Frag) : Sp := fun vs H Q _ => ∃ (a : Addr) (ns : List Int), vs = [.ref a] ∧ SqL K H a (ns.map V.int) ∧ ns.length ≤ 63 ∧ ∀ H', Q (.bl true) H'
theorem dens_of_ints {K : PySem.W.Frag} {cl : Nat → ClsT} {H : Hp} : ∀ ns : List Int, Dens K cl H (ns.map D.int) (ns.map V.int)
  | [] => Dens.nil
  | _ :: r => Dens.cons mk_int (dens_of_ints r)
theorem law_spec {P : Program} {wd : World} {K : PySem.W.Frag} {mg : Str → Option Value} {base : Heap} {cl : Nat → ClsT} {k : Nat} {f : Addr} {fd : FuncData} {ps : List Str} {F : List D → Ret} (hF : ∀ ns : List Int, ns.length ≤ 63 → F [.fl (ns.map D.int)] = .ok (.bl true))
    (o : FnOk P wd K mg base CX0 k f fd ps (spF K cl 1 F)) : FnOk P wd K mg base CX0 k f fd ps (spLaw K) := by
  have key : ∀ vs H Q E, spLaw K vs H Q E → spF K cl 1 F vs H Q E := fun vs H Q E ⟨a, ns, e, hs, hl, q⟩ => by
    subst e
    refine ⟨H, [.fl (ns.map D.int)], Same.refl _, Dens.cons ?_ Dens.nil, rfl, ?_⟩
    · simp only [Den]
      exact ⟨a, _, rfl, hs, dens_of_ints ns⟩
    · rw [hF ns hl]
      intro v H' G' g z
      rw [den_bl z]
      exact q H'
  exact ⟨fun vs H Q E h => o.len vs H Q E (key _ _ _ _ h), fun A outer s H args us vs Q E hr he hb hv h => o.run A outer s H args us vs Q E hr he hb hv (key _ _ _ _ h)⟩
end Fw
namespace Fw
open PySem PySem.Spec PyProof.Rows L2
theorem caller_room {k : Nat} (h : L2.Room k callerA) : Fw.Room k callerA := ⟨h, rfl⟩
section
variable {P : Program} {wd : World} {K : PySem.W.Frag} {mg mb : Str → Option Value} {k : Nat} {fa a : Addr} {fd : FuncData} {x : Str} {sp : Sp} {st : Shared} {us : List Value} {ns : List Int}
/-- what is to be shown of the law's call -/
def lawEnd (st : Shared) (r : Result) (s' : Shared) : Prop := r = .ok (.ret (.bool true)) ∧ OldK st.heap s'.heap ∧ s'.os = st.os ∧ AllBare s'.gens
theorem law_from (KX : K.In st.heap) (hns : st.heap.Ns mainGlobals mg) (hb : st.heap.Ns builtinsNs mb) (hbb : ∀ y : Str, y ≠ "__name__" → mb y = bootBuiltins y) (hlim : st.heap.NoLimit) (hg : st.gens = #[])
    (ha : st.heap.get? a = some { cls := .type "list", data := .seq us.toArray }) (rm : Fw.Room k callerA) (F : ∀ base : Heap, K.In base → base.Ns mainGlobals mg → Fw.FnOk P wd K mg base CX0 k fa fd [x] sp)
    (bind : ∀ (s : Shared) (u : Value), BindsTo s fd ⟨[u], []⟩ [(x, u)]) (H : Hp) (hO : Only H) (want : sp [.ref a] H (fun v _ => v = .bl true) fun _ _ _ => False) (hok : HOk P wd H st.heap) (only : ∀ b, H b ≠ none → b = a) (own : H a ≠ none → K.lookup a = none) :
    codeAny (model P wd) callerA (.call (.ref fa) ⟨[.ref a], []⟩) (lawEnd st) st := by
  have tracked : ∀ {b : Addr} {u : HO}, H b = some u → b = a := fun {b u} e => only b (by rw [e]; exact fun z => nomatch z)
  have noDict : ∀ {b : Addr} {o : Obj} {es : Array DictEntry} {ep : Nat}, st.heap.get? b = some o → o.data = .dict es ep → H b = none := fun {b o es ep} e d => by
    cases z : H b with
    | none => rfl
    | some u =>
      have hba := tracked z
      rw [hba, ha] at e
      cases e
      exact nomatch (show Data.seq us.toArray _ = Data.dict es ep from d)
  have names : ∀ {b : Addr} {m : Str → Option Value}, st.heap.Ns b m → (hidT st.heap H).Ns b m := fun {b m} ⟨o, es, ep, e, d, q⟩ => ⟨o, es, ep, hidT_get e (noDict e d), d, q⟩
  have kin : K.In (hidT st.heap H) := fun b o e => hidT_get (KX b o e) (by
    cases z : H b with
    | none => rfl
    | some u =>
      have hba := tracked z
      rw [hba] at e z
      rw [own (by rw [z]; exact fun q => nomatch q)] at e
      cases e)
  have mod : Mod K mg (hidT st.heap H) := by
    obtain ⟨mc, l1, l2⟩ := hlim
    exact ⟨kin, names hns, ⟨mb, names hb, hbb⟩, mc, names l1, l2⟩
  have env : Env0 P wd K mg (hidT st.heap H) callerA [] st H := ⟨rfl, mod, fun b o e => of_hidT e, Nat.le_of_eq (hidT_size _ _), trivial, fun b z => (List.not_mem_nil z).elim, hok, .of_eq hg⟩
  refine codeAny_mono ((F _ kin (names hns)).run callerA [] st H ⟨[.ref a], []⟩ [.ref a] [.ref a] _ _ rm env (bind st (.ref a)) (.cons rfl .nil) want) fun r s' got => ?_
  cases r with
  | error u => exact got.elim
  | ok fl =>
    cases fl with
    | next => exact got.elim
    | brk => exact got.elim
    | cont => exact got.elim
    | ret u =>
      obtain ⟨v, H', os, bare, un, hok2, rv, q⟩ := got
      cases q
      cases rv
      refine ⟨rfl, OldK.of_keep fun b o e => ?_, os, bare⟩
      rcases hO b with z | ⟨ob, xs, z⟩
      · exact un.keep b o e z (fun z => List.not_mem_nil z) (fun z => List.not_mem_nil z)
      · have e1 := (hok b _ z).1
        have e2 := (hok2 b _ (un.frzs b ob _ z)).1
        rw [e] at e1
        cases e1
        exact e2
theorem law_g (KX : K.In st.heap) (hns : st.heap.Ns mainGlobals mg) (hb : st.heap.Ns builtinsNs mb) (hbb : ∀ y : Str, y ≠ "__name__" → mb y = bootBuiltins y) (hlim : st.heap.NoLimit) (hg : st.gens = #[])
    (ha : st.heap.get? a = some { cls := .type "list", data := .seq us.toArray }) (hi : IntsAre us ns) (hl : ns.length ≤ sizeLine) (rm : Fw.Room k callerA) (F : ∀ base : Heap, K.In base → base.Ns mainGlobals mg → Fw.FnOk P wd K mg base CX0 k fa fd [x] sp)
    (bind : ∀ (s : Shared) (u : Value), BindsTo s fd ⟨[u], []⟩ [(x, u)]) (want : ∀ H : Hp, Only H → SqL K H a (ns.map V.int) → sp [.ref a] H (fun v _ => v = .bl true) fun _ _ _ => False) :
    codeAny (model P wd) callerA (.call (.ref fa) ⟨[.ref a], []⟩) (lawEnd st) st := by
  have rv := vals_ints hi
  have lv := hi.length
  cases hk : K.lookup a with
  | some o =>
    have e := KX a o hk
    rw [ha] at e
    cases e
    have hO : Only fun _ => none := fun b => .inl rfl
    refine law_from KX hns hb hbb hlim hg ha rm F bind (fun _ => none) hO (want _ hO (.inr ⟨_, us.toArray, _, hk, rfl, rfl, rfl, ?_, ?_⟩)) (fun b u z => nomatch (show (none : Option HO) = some u from z)) (fun b z => (z rfl).elim) fun z => (z rfl).elim
    · rw [List.size_toArray, lv]
      exact hl
    · simpa using rv
  | none =>
    have at_ : ∀ b : Addr, b ≠ a → (fun b => if b = a then some (HO.frz { cls := .type "list", data := .seq us.toArray } (.lst (ns.map V.int))) else none) b = none := fun b z => if_neg z
    have hO : Only fun b => if b = a then some (HO.frz { cls := .type "list", data := .seq us.toArray } (.lst (ns.map V.int))) else none := fun b => by
      by_cases z : b = a
      · exact .inr ⟨_, _, if_pos z⟩
      · exact .inl (at_ b z)
    refine law_from KX hns hb hbb hlim hg ha rm F bind _ hO (want _ hO (.inl (.inr ⟨_, if_pos rfl⟩))) (fun b u z => ?_) (fun b z => Classical.byContradiction fun q => z (at_ b q)) fun _ => hk
    by_cases q : b = a
    · subst q
      have z2 := (if_pos rfl).symm.trans z
      cases z2
      exact ⟨ha, by rw [List.length_map]; exact hl, us, _, rv, ha⟩
    · have z2 := (at_ b q).symm.trans z
      cases z2
end
theorem walk_of {l : PySem.W.OpenLaw} {n k : Nat} {q : Program} {loose : List Str} {XP : (Str → Option Value) → Heap → Prop} {YP : World → Heap → Prop} {d : DefRec} {K : Params → PySem.W.Frag} {sp : World → Sp} {x : Str}
    (hn : l.most = some n) (hn2 : n ≤ sizeLine) (hdf : d.params.defaults = []) (rm : Fw.Room k callerA) (hY : ∀ (wd : World) (h : Heap), YP wd h → (K wd.params).In h)
    (F : ∀ (wd : World) (mg : Str → Option Value) (fa : Addr) (h : Heap), (K wd.params).In h → h.Ns mainGlobals mg → mg d.name = some (.ref fa) →
      ∃ fd : FuncData, (∀ (s : Shared) (u : Value), BindsTo s fd ⟨[u], []⟩ [(x, u)]) ∧ ∀ base : Heap, (K wd.params).In base → base.Ns mainGlobals mg → Fw.FnOk l.prog wd (K wd.params) mg base CX0 k fa fd [x] (sp wd))
    (want : ∀ (wd : World) (H : Hp) (a : Addr) (ns : List Int), ns.length ≤ n → Only H → SqL (K wd.params) H a (ns.map V.int) → sp wd [.ref a] H (fun v _ => v = .bl true) fun _ _ _ => False) :
    PySem.W.WalkO q loose XP YP l.row.toRowW d [] (fun f vs => PySem.call f vs) := by
  refine Att.attach_call hn hdf fun wd s₀ st mg mb fa o pm cd doc a us ns G Y ho hd hcd hmg hobj hints hlen hg => ?_
  have kin := hY wd _ Y
  obtain ⟨fd, bd, hF⟩ := F wd mg fa _ kin G.T.g hmg
  exact law_g kin G.T.g G.T.b G.T.builtins G.T.nolimit hg hobj hints (Nat.le_trans hlen hn2) rm hF bd fun H hO hS => want wd H a ns hlen hO hS
end Fw
namespace Fw
open PySem PySem.Spec PyProof.Rows L2
section
variable {X : Cx} {w : Wd} {e ea : Expr} {f : Ef} {pos : Pos}
theorem PE.or {t t' : TE} (h : PE X e t) (h' : PE X e t') : PE X e (fun σ H R => t σ H R ∨ t' σ H R) := ⟨fun pins s σ H R I q => q.elim (h.run pins s σ H R I) (h'.run pins s σ H R I)⟩
def eSlA (f : Ef) (l h : Env → Option (Option Int)) : Ef := fun ρ => match f ρ with
  | some (.lst ds) => fL (aSl f l h) ρ
  | some (.fl ds) => fL (aSl f l h) ρ
  | _ => eSl oSl f l h ρ
end
def Cell.shd : Cell → Option D
  | .sh d => some d
  | _ => none
def Cell.obd : Cell → Option D
  | .own o => some o.toD
  | .sh d => some d
  | .tre _ t => t.flat
  | _ => none
@[simp] theorem shd_sh {d} : Cell.shd (.sh d) = some d := rfl
@[simp] theorem obd_sh {d} : Cell.obd (.sh d) = some d := rfl
@[simp] theorem obd_tre {k t} : Cell.obd (.tre k t) = t.flat := rfl
@[simp] theorem obd_own {d} : Cell.obd (.own d) = some d.toD := rfl
@[simp] theorem toD_lst {d} : Ow.toD (.lst d) = .lst d := rfl
@[simp] theorem toD_obj {c d} : Ow.toD (.obj c d) = .ins c d := rfl
@[simp] theorem toD_dic {c d} : Ow.toD (.dic c d) = .dic c d := rfl
@[simp] theorem cellAt_z {c : Cell} {r : Env} : cellAt (c :: r) 0 = c := rfl
@[simp] theorem cellAt_s {c : Cell} {r : Env} {i : Nat} : cellAt (c :: r) (i + 1) = cellAt r i := rfl
@[simp] theorem eVar_x {i ρ} : eVar i ρ = (cellAt ρ i).shd := by
  unfold eVar
  cases cellAt ρ i <;> rfl
@[simp] theorem eOwn_x {i ρ} : eOwn i ρ = (cellAt ρ i).obd := by
  unfold eOwn
  cases cellAt ρ i <;> rfl
@[simp] theorem eC_x {d ρ} : eC d ρ = some d := rfl
@[simp] theorem eBin_x {o f g ρ} : eBin o f g ρ = (f ρ).bind fun a => (g ρ).bind fun b => o a b := rfl
@[simp] theorem aBin_x {o f g ρ} : aBin o f g ρ = (f ρ).bind fun a => (g ρ).bind fun b => o a b := rfl
@[simp] theorem e1o_x {o f ρ} : e1o o f ρ = (f ρ).bind o := rfl
@[simp] theorem aNil_x {ρ} : aNil ρ = some [] := rfl
@[simp] theorem aCons_x {f g ρ} : aCons f g ρ = (f ρ).bind fun d => (g ρ).map fun ds => d :: ds := rfl
@[simp] theorem eArgs_x {o f ρ} : eArgs o f ρ = (f ρ).bind o := rfl
@[simp] theorem aArgs_x {o f ρ} : aArgs o f ρ = (f ρ).bind o := rfl
@[simp] theorem eCall_x {F f ρ} : eCall F f ρ = (f ρ).bind fun ds => toD (F ds) := rfl
@[simp] theorem aCall_x {F f ρ} : aCall F f ρ = (f ρ).bind fun ds => toFr (F ds) := rfl
@[simp] theorem fL_x {f ρ} : fL f ρ = (f ρ).map D.lst := rfl
@[simp] theorem fW_x {f ρ} : fW f ρ = (f ρ).map Ow.toD := rfl
@[simp] theorem wL_x {f ρ} : wL f ρ = (f ρ).map Ow.lst := rfl
@[simp] theorem pSome_x {f ρ} : pSome f ρ = (asI (f ρ)).map some := rfl
@[simp] theorem asI_x {i} : asI (some (.int i)) = some i := rfl
@[simp] theorem asB_x {b} : asB (some (.bl b)) = some b := rfl
@[simp] theorem tB1_x {f ρ} : tB1 f ρ = asB (f ρ) := rfl
@[simp] theorem toD_ok {d} : Fw.toD (.ok d) = some d := rfl
@[simp] theorem toD_fr {d} : Fw.toD (.fr d) = some d.toD := rfl
@[simp] theorem toFr_fr {d} : Fw.toFr (.fr d) = some d := rfl
@[simp] theorem tNotF_x {f ρ} : tNotF f ρ = (f ρ).map fun b => !b := rfl
@[simp] theorem tYesF_x {ρ} : tYesF ρ = some true := rfl
@[simp] theorem tAndF_x {f g ρ} : tAndF f g ρ = (f ρ).bind fun b => if b = true then g ρ else some false := by
  unfold tAndF
  cases f ρ with
  | none => rfl
  | some b => cases b <;> rfl
@[simp] theorem tOrF_x {f g ρ} : tOrF f g ρ = (f ρ).bind fun b => if b = true then some true else g ρ := by
  unfold tOrF
  cases f ρ with
  | none => rfl
  | some b => cases b <;> rfl
def asBd : Option D → Option Bool := asB
@[simp] theorem asBd_x {b} : asBd (some (.bl b)) = some b := rfl
@[simp] theorem eAnd_x {f g ρ} : eAnd f g ρ = (asBd (f ρ)).bind fun b => if b = true then g ρ else some (.bl false) := by
  unfold eAnd
  cases f ρ with
  | none => rfl
  | some d => cases d with
    | bl b => cases b <;> rfl
    | _ => rfl
@[simp] theorem eOr_x {f g ρ} : eOr f g ρ = (asBd (f ρ)).bind fun b => if b = true then some (.bl true) else g ρ := by
  unfold eOr
  cases f ρ with
  | none => rfl
  | some d => cases d with
    | bl b => cases b <;> rfl
    | _ => rfl
@[simp] theorem eIf_x {t f g ρ} : eIf t f g ρ = (t ρ).bind fun b => if b = true then f ρ else g ρ := by
  unfold eIf
  cases t ρ with
  | none => rfl
  | some b => cases b <;> rfl
@[simp] theorem tChain_x {o o' f g h ρ} : tChainF o o' f g h ρ = (f ρ).bind fun a => (g ρ).bind fun b => (asBd (o a b)).bind fun r => if r = true then (h ρ).bind fun c => o' b c else some (.bl false) := by
  unfold tChainF
  congr 1
  funext a
  congr 1
  funext b
  cases o a b with
  | none => rfl
  | some d => cases d with
    | bl b => cases b <;> rfl
    | _ => rfl
@[simp] theorem oNot_x {b} : oNot (.bl b) = some (.bl (!b)) := rfl
@[simp] theorem eTup_x {f ρ} : eTup f ρ = (f ρ).bind fun ds => if ds.length ≤ 16777216 then some (.tup ds) else none := rfl
@[simp] theorem aLst_x {f ρ} : aLst f ρ = (f ρ).bind fun ds => if ds.length ≤ 16777216 then some ds else none := rfl
@[simp] theorem oAdd_int {i j} : oAdd (.int i) (.int j) = some (.int (i + j)) := rfl
@[simp] theorem oAdd_lst {i j} : oAdd (.lst i) (.lst j) = if i.length + j.length ≤ 16777216 then some (.lst (i ++ j)) else none := rfl
@[simp] theorem oAdd_tup {i j} : oAdd (.tup i) (.tup j) = if i.length + j.length ≤ 16777216 then some (.tup (i ++ j)) else none := rfl
@[simp] theorem oCatL_x {i j} : oCatL (.lst i) (.lst j) = if i.length + j.length ≤ 16777216 then some (i ++ j) else none := rfl
@[simp] theorem oSub_int {i j} : oSub (.int i) (.int j) = some (.int (i - j)) := rfl
theorem oMod_int {i j} : oMod (.int i) (.int j) = if 0 < j then some (.int (i % j)) else none := by
  unfold oMod oInt
  simp
theorem oFdiv_int {i j} : oFdiv (.int i) (.int j) = if 0 < j ∧ j < 1073741824 then some (.int (i / j)) else none := by
  unfold oFdiv oInt
  simp
@[simp] theorem oPow_int {i j} : oPow (.int i) (.int j) = if 0 ≤ j ∧ j ≤ 1000000 ∧ i.natAbs < 18446744073709551616 then some (.int (i ^ j.toNat)) else none := by
  unfold oPow oInt
  simp
theorem oMul_int {i j} : oMul (.int i) (.int j) = if mulC i j = true then some (.int (i * j)) else none := rfl
theorem mulC_a {i j : Int} (h : -18446744073709551616 < i ∧ i < 18446744073709551616) : mulC i j = true := decide_eq_true (.inl h)
theorem mulC_b {i j : Int} (h : -18446744073709551616 < j ∧ j < 18446744073709551616) : mulC i j = true := decide_eq_true (.inr h)
@[simp] theorem oMul_a {i j : Int} (h : -18446744073709551616 < i ∧ i < 18446744073709551616) : oMul (.int i) (.int j) = some (.int (i * j)) := by rw [oMul_int, if_pos (mulC_a h)]
@[simp] theorem oMul_b {i j : Int} (h : -18446744073709551616 < j ∧ j < 18446744073709551616) : oMul (.int i) (.int j) = some (.int (i * j)) := by rw [oMul_int, if_pos (mulC_b h)]
@[simp] theorem oMod_p {i j : Int} (h : 0 < j) : oMod (.int i) (.int j) = some (.int (i % j)) := by rw [oMod_int, if_pos h]
@[simp] theorem oFdiv_p {i j : Int} (h : 0 < j ∧ j < 1073741824) : oFdiv (.int i) (.int j) = some (.int (i / j)) := by rw [oFdiv_int, if_pos h]
@[simp] theorem oLt_int {i j} : oLt (.int i) (.int j) = some (.bl (decide (i < j))) := rfl
@[simp] theorem oLe_int {i j} : oLe (.int i) (.int j) = some (.bl (decide (i ≤ j))) := rfl
@[simp] theorem oGt_int {i j} : oGt (.int i) (.int j) = some (.bl (decide (j < i))) := rfl
@[simp] theorem oGe_int {i j} : oGe (.int i) (.int j) = some (.bl (decide (j ≤ i))) := rfl
@[simp] theorem oEq_int {i j} : oEq (.int i) (.int j) = some (.bl (decide (i = j))) := rfl
@[simp] theorem oEq_bl {i j} : oEq (.bl i) (.bl j) = some (.bl (decide (i = j))) := rfl
@[simp] theorem oIsN_x {d} : oIsN d .non = some (.bl (isNonD d)) := rfl
@[simp] theorem oNotN_x {d} : oNotN d .non = some (.bl (!isNonD d)) := rfl
@[simp] theorem isNon_1 : isNonD .non = true := rfl
@[simp] theorem isNon_2 {i} : isNonD (.int i) = false := rfl
@[simp] theorem isNon_3 {i} : isNonD (.tup i) = false := rfl
@[simp] theorem isNon_4 {i} : isNonD (.lst i) = false := rfl
@[simp] theorem isNon_5 {i j} : isNonD (.ins i j) = false := rfl
@[simp] theorem isNon_6 {i} : isNonD (.bl i) = false := rfl
@[simp] theorem items_lst {d} : itemsOf (.lst d) = some d := rfl
@[simp] theorem items_fl {d} : itemsOf (.fl d) = some d := rfl
@[simp] theorem items_tup {d} : itemsOf (.tup d) = some d := rfl
@[simp] theorem seq_lst {d} : seqOf (.lst d) = some d := rfl
@[simp] theorem seq_fl {d} : seqOf (.fl d) = some d := rfl
@[simp] theorem oIx_lst {d i} : oIx (.lst d) (.int i) = ixD d i := rfl
@[simp] theorem oIx_fl {d i} : oIx (.fl d) (.int i) = ixD d i := rfl
@[simp] theorem oIx_tup {d i} : oIx (.tup d) (.int i) = ixD d i := rfl
theorem ixD_nat {d : List D} {i : Nat} : ixD d (i : Int) = d[i]? := by
  unfold ixD
  rw [if_pos (by omega)]
  rfl
@[simp] theorem ixD_zero {d : List D} : ixD d 0 = d[0]? := rfl
@[simp] theorem ixD_lit {d : List D} {i : Nat} : ixD d (no_index (OfNat.ofNat i : Int)) = d[i]? := ixD_nat (i := i)
@[simp] theorem oLen_lst {d} : oLen [.lst d] = some (.int d.length) := rfl
@[simp] theorem oLen_fl {d} : oLen [.fl d] = some (.int d.length) := rfl
@[simp] theorem oLen_tup {d} : oLen [.tup d] = some (.int d.length) := rfl
@[simp] theorem oToInt_int {i} : oToInt [.int i] = some (.int i) := rfl
@[simp] theorem oToInt_bl {i} : oToInt [.bl i] = some (.int (if i then 1 else 0)) := rfl
@[simp] theorem oMax2_x {i j} : oMax2 [.int i, .int j] = some (.int (max i j)) := rfl
@[simp] theorem oList_x {d} : oList [d] = itemsOf d := rfl
@[simp] theorem oTuple_x {d} : oTuple [d] = (itemsOf d).map D.tup := rfl
@[simp] theorem oSl_tup {d a b} : oSl (.tup d) a b = some (.tup (cutD d a b)) := rfl
@[simp] theorem eSl_x {o f l h ρ} : eSl o f l h ρ = (f ρ).bind fun d => (l ρ).bind fun a => (h ρ).bind fun b => o d a b := rfl
def slD (d : D) (a b : Option Int) : Option D := match d with
  | .lst ds => some (.lst (cutD ds a b))
  | .fl ds => some (.lst (cutD ds a b))
  | d => oSl d a b
@[simp] theorem slD_lst {d a b} : slD (.lst d) a b = some (.lst (cutD d a b)) := rfl
@[simp] theorem slD_fl {d a b} : slD (.fl d) a b = some (.lst (cutD d a b)) := rfl
@[simp] theorem slD_tup {d a b} : slD (.tup d) a b = some (.tup (cutD d a b)) := rfl
@[simp] theorem eSlA_x {f l h ρ} : eSlA f l h ρ = (f ρ).bind fun d => (l ρ).bind fun a => (h ρ).bind fun b => slD d a b := by
  unfold eSlA
  split
  · rename_i ds e
    rw [fL_x]
    unfold aSl
    rw [e]
    dsimp only
    rw [Option.bind_some]
    cases l ρ with
    | none => rfl
    | some a => cases h ρ <;> rfl
  · rename_i ds e
    rw [fL_x]
    unfold aSl
    rw [e]
    dsimp only
    rw [Option.bind_some]
    cases l ρ with
    | none => rfl
    | some a => cases h ρ <;> rfl
  · rename_i h1 h2
    rw [eSl_x]
    cases e : f ρ with
    | none => rfl
    | some d =>
      rw [Option.bind_some, Option.bind_some]
      cases d with
      | lst ds => exact (h1 ds e).elim
      | fl ds => exact (h2 ds e).elim
      | _ => rfl
@[simp] theorem aSl_x {f l h ρ} : aSl f l h ρ = (f ρ).bind fun d => (seqOf d).bind fun ds => (l ρ).bind fun a => (h ρ).map fun b => cutD ds a b := by
  unfold aSl
  cases f ρ with
  | none => rfl
  | some d => cases d <;> rfl
@[simp] theorem oIsi_x {d b} : oIsi [d, .ty b] = ((tyName d).bind fun a => isTy a b).map D.bl := rfl
@[simp] theorem oIsi_t {d bs} : oIsi [d, .tup bs] = ((tyName d).bind fun a => (tysOf bs).bind fun bs => isAny a bs).map D.bl := rfl
@[simp] theorem tn1 {i} : tyName (.int i) = some "int" := rfl
@[simp] theorem tn2 {i} : tyName (.bl i) = some "bool" := rfl
@[simp] theorem tn3 {i} : tyName (.tup i) = some "tuple" := rfl
@[simp] theorem tn4 {i} : tyName (.lst i) = some "list" := rfl
@[simp] theorem tn5 {i} : tyName (.str i) = some "str" := rfl
@[simp] theorem tn6 : tyName .non = some "NoneType" := rfl
@[simp] theorem it1 : isTy "int" "int" = some true := by decide
@[simp] theorem it2 : isTy "int" "bool" = some false := by decide
@[simp] theorem it3 : isTy "int" "tuple" = some false := by decide
@[simp] theorem it4 : isTy "int" "list" = some false := by decide
@[simp] theorem it5 : isTy "int" "str" = some false := by decide
@[simp] theorem it6 : isTy "bool" "int" = some true := by decide
@[simp] theorem it7 : isTy "bool" "bool" = some true := by decide
@[simp] theorem it8 : isTy "tuple" "tuple" = some true := by decide
@[simp] theorem it9 : isTy "tuple" "list" = some false := by decide
@[simp] theorem it10 : isTy "tuple" "int" = some false := by decide
@[simp] theorem it11 : isTy "list" "list" = some true := by decide
@[simp] theorem it12 : isTy "list" "tuple" = some false := by decide
@[simp] theorem it13 : isTy "list" "int" = some false := by decide
@[simp] theorem it14 : isTy "str" "str" = some true := by decide
@[simp] theorem it15 : isTy "NoneType" "int" = some false := by decide
@[simp] theorem it16 : isTy "bool" "tuple" = some false := by decide
@[simp] theorem it17 : isTy "NoneType" "tuple" = some false := by decide
@[simp] theorem it18 : isTy "NoneType" "list" = some false := by decide
@[simp] theorem ia1 : isAny "int" ["list", "tuple"] = some false := by decide
@[simp] theorem ia2 : isAny "tuple" ["list", "tuple"] = some true := by decide
@[simp] theorem ia3 : isAny "list" ["list", "tuple"] = some true := by decide
@[simp] theorem ia4 : isAny "NoneType" ["list", "tuple"] = some false := by decide
@[simp] theorem ia5 : isAny "bool" ["list", "tuple"] = some false := by decide
@[simp] theorem ia6 : isAny "str" ["list", "tuple"] = some false := by decide
@[simp] theorem tys0 : tysOf [] = some [] := rfl
@[simp] theorem tys1 {b r} : tysOf (.ty b :: r) = (tysOf r).map fun l => b :: l := rfl
def Out.next : Out → Sf → Out
  | .nx ρ, F => F ρ
  | o, _ => o
@[simp] theorem next_nx {ρ F} : Out.next (.nx ρ) F = F ρ := rfl
@[simp] theorem next_bk {ρ F} : Out.next (.bk ρ) F = .bk ρ := rfl
@[simp] theorem next_ct {ρ F} : Out.next (.ct ρ) F = .ct ρ := rfl
@[simp] theorem next_rt {d ρ F} : Out.next (.rt d ρ) F = .rt d ρ := rfl
@[simp] theorem next_rf {d ρ F} : Out.next (.rf d ρ) F = .rf d ρ := rfl
@[simp] theorem next_stuck {F} : Out.next .stuck F = .stuck := rfl
@[simp] theorem sSeq_x {F G ρ} : sSeq F G ρ = (F ρ).next G := by
  unfold sSeq
  cases F ρ <;> rfl
@[simp] theorem next_ite {p : Prop} [Decidable p] {a b : Out} {F} : Out.next (if p then a else b) F = if p then a.next F else b.next F := by
  split <;> rfl
def opt {α : Type} (o : Option α) (f : α → Out) : Out := match o with
  | some a => f a
  | none => .stuck
@[simp] theorem opt_some {α : Type} {a : α} {f : α → Out} : opt (some a) f = f a := rfl
@[simp] theorem opt_ite {α : Type} {p : Prop} [Decidable p] {a b : Option α} {f : α → Out} : opt (if p then a else b) f = if p then opt a f else opt b f := by
  split <;> rfl
@[simp] theorem sNext_x {ρ} : sNext ρ = .nx ρ := rfl
@[simp] theorem sFrz_x {i F ρ} : sFrz i F ρ = F (frz i ρ) := rfl
@[simp] theorem sBreak_x {ρ} : sBreak ρ = .bk ρ := rfl
@[simp] theorem sSet_x {i f ρ} : sSet i f ρ = opt (f ρ) fun d => .nx (ρ.set i (.sh d)) := by
  unfold sSet
  cases f ρ <;> rfl
@[simp] theorem sSetF_x {i f ρ} : sSetF i f ρ = opt (f ρ) fun d => .nx (ρ.set i (.own (.lst d))) := by
  unfold sSetF
  cases f ρ <;> rfl
def setN (i : Nat) (ρ : Env) : Ow → Out
  | .lst ds => .nx (ρ.set i (.own (.lst ds)))
  | .dic ks ds => .nx (ρ.set i (.own (.dic ks ds)))
  | _ => .stuck
@[simp] theorem setN_lst {i ρ ds} : setN i ρ (.lst ds) = .nx (ρ.set i (.own (.lst ds))) := rfl
@[simp] theorem sSetN_x {i f ρ} : sSetN i f ρ = opt (f ρ) (setN i ρ) := by
  unfold sSetN
  cases f ρ with
  | none => rfl
  | some o => cases o <;> rfl
@[simp] theorem sDrop_x {f ρ} : sDrop f ρ = opt (f ρ) fun _ => .nx ρ := by
  unfold sDrop
  cases f ρ <;> rfl
@[simp] theorem sRet_x {f ρ} : sRet f ρ = opt (f ρ) fun d => .rt d ρ := by
  unfold sRet
  cases f ρ <;> rfl
@[simp] theorem sRetF_x {f ρ} : sRetF f ρ = opt (f ρ) fun d => .rf (.lst d) ρ := by
  unfold sRetF
  cases f ρ <;> rfl
@[simp] theorem sRetO_x {f ρ} : sRetO f ρ = opt (f ρ) fun o => .rf o ρ := by
  unfold sRetO
  cases f ρ <;> rfl
def retV (ρ : Env) (i : Nat) : Cell → Out
  | .own o => .rf o (ρ.set i .no)
  | .sh d => .rt d ρ
  | .no => .stuck
  | .tre _ _ => .stuck
  | .xc => .stuck
@[simp] theorem retV_own {ρ i o} : retV ρ i (.own o) = .rf o (ρ.set i .no) := rfl
@[simp] theorem retV_sh {ρ i o} : retV ρ i (.sh o) = .rt o ρ := rfl
@[simp] theorem sRetV_x {i ρ} : sRetV i ρ = retV ρ i (cellAt ρ i) := by
  unfold sRetV
  cases cellAt ρ i <;> rfl
@[simp] theorem sIf_x {t F G ρ} : sIf t F G ρ = opt (t ρ) fun b => if b = true then F ρ else G ρ := by
  unfold sIf
  cases t ρ with
  | none => rfl
  | some b => cases b <;> rfl
def frzC : Cell → Cell
  | .own o => .sh o.toD
  | c => c
@[simp] theorem frzC_own {o} : frzC (.own o) = .sh o.toD := rfl
@[simp] theorem frzC_sh {o} : frzC (.sh o) = .sh o := rfl
@[simp] theorem frzC_no : frzC .no = .no := rfl
@[simp] theorem frz_z {c : Cell} {r : Env} : frz 0 (c :: r) = frzC c :: r := by
  unfold frz
  cases c <;> rfl
@[simp] theorem frz_s {i} {c : Cell} {r : Env} : frz (i + 1) (c :: r) = c :: frz i r := by
  unfold frz
  rw [cellAt_s]
  cases cellAt r i <;> rfl
def app (ρ : Env) (i : Nat) (c : Cell) (d : D) : Out := match c with
  | .own (.lst ds) => if ds.length < 16777216 then .nx (ρ.set i (.own (.lst (ds ++ [d])))) else .stuck
  | _ => .stuck
@[simp] theorem app_x {ρ i ds d} : app ρ i (.own (.lst ds)) d = if ds.length < 16777216 then .nx (ρ.set i (.own (.lst (ds ++ [d])))) else .stuck := rfl
@[simp] theorem sApp_x {i f ρ} : sApp i f ρ = opt (f ρ) (app ρ i (cellAt ρ i)) := by
  unfold sApp
  cases f ρ with
  | none =>
    rw [show opt none (app ρ i (cellAt ρ i)) = .stuck from rfl]
    split <;> simp_all
  | some d =>
    rw [opt_some]
    unfold app
    cases cellAt ρ i with
    | own o => cases o <;> rfl
    | _ => rfl
def augI (ρ : Env) (i : Nat) (o : Int → Int → Int) (c : Cell) : D → Out
  | .int b => match c with
    | .sh (.int a) => .nx (ρ.set i (.sh (.int (o a b))))
    | _ => .stuck
  | _ => .stuck
@[simp] theorem augI_x {ρ i o a b} : augI ρ i o (.sh (.int a)) (.int b) = .nx (ρ.set i (.sh (.int (o a b)))) := rfl
@[simp] theorem sAugI_x {o i f ρ} : sAugI o i f ρ = opt (f ρ) (augI ρ i o (cellAt ρ i)) := by
  unfold sAugI
  cases f ρ with
  | none =>
    rw [show opt none (augI ρ i o (cellAt ρ i)) = .stuck from rfl]
    split <;> simp_all
  | some d =>
    rw [opt_some]
    unfold augI
    cases d with
    | int b =>
      cases cellAt ρ i with
      | sh e => cases e <;> rfl
      | _ => rfl
    | _ =>
      dsimp only
      split <;> simp_all
@[simp] theorem sFor_x {f t F ρ} : sFor f t F ρ = opt (f ρ) fun ds => loopF t F ds ρ := by
  unfold sFor
  cases f ρ <;> rfl
@[simp] theorem put_nm {i d ρ} : put (.nm i) d ρ = some (ρ.set i (.sh d)) := rfl
@[simp] theorem put_tp {is ds ρ} : put (.tp is) (.tup ds) ρ = putL is ds ρ := rfl
@[simp] theorem putL_nil {ρ} : putL [] [] ρ = some ρ := rfl
@[simp] theorem putL_cons {i is d ds ρ} : putL (i :: is) (d :: ds) ρ = putL is ds (ρ.set i (.sh d)) := rfl
@[simp] theorem sUnp_x {t f ρ} : sUnp t f ρ = opt ((f ρ).bind fun d => put t d ρ) .nx := by
  unfold sUnp
  cases (f ρ).bind fun d => put t d ρ <;> rfl
@[simp] theorem loop_nil {t F ρ} : loopF t F [] ρ = .nx ρ := rfl
def Out.turn : Out → Sf → Out
  | .nx ρ, F => F ρ
  | .ct ρ, F => F ρ
  | .bk ρ, _ => .nx ρ
  | o, _ => o
theorem loop_cons {t F d ds ρ} : loopF t F (d :: ds) ρ = opt (put t d ρ) fun ρ1 => (F ρ1).turn (loopF t F ds) := by
  show (match put t d ρ with | none => Out.stuck | some ρ1 => _) = _
  cases put t d ρ with
  | none => rfl
  | some ρ1 =>
    rw [opt_some]
    dsimp only
    cases F ρ1 <;> rfl
@[simp] theorem turn_nx {ρ F} : Out.turn (.nx ρ) F = F ρ := rfl
@[simp] theorem turn_ct {ρ F} : Out.turn (.ct ρ) F = F ρ := rfl
@[simp] theorem turn_bk {ρ F} : Out.turn (.bk ρ) F = .nx ρ := rfl
@[simp] theorem turn_rt {d ρ F} : Out.turn (.rt d ρ) F = .rt d ρ := rfl
@[irreducible] def RngOk (j : Int) : Prop := j < 4611686018427387904 ∧ -4611686018427387904 ≤ j
open Classical in
noncomputable def rng1 : List D → Option (List D)
  | [.int j] => if RngOk j then some (rangeD 0 j.toNat) else none
  | _ => none
open Classical in
noncomputable def rng2 : List D → Option (List D)
  | [.int i, .int j] => if RngOk j ∧ RngOk i then some (rangeD i (j - i).toNat) else none
  | _ => none
@[simp] theorem aRng1_x {f ρ} : aRng1 f ρ = (f ρ).bind rng1 := by
  unfold aRng1
  cases f ρ with
  | none => rfl
  | some ds =>
    show _ = rng1 ds
    unfold rng1 RngOk
    split <;> simp_all
@[simp] theorem aRng2_x {f ρ} : aRng2 f ρ = (f ρ).bind rng2 := by
  unfold aRng2
  cases f ρ with
  | none => rfl
  | some ds =>
    show _ = rng2 ds
    unfold rng2 RngOk
    split <;> simp_all
@[simp] theorem aItems_x {f ρ} : aItems f ρ = (f ρ).bind itemsOf := rfl
@[simp] theorem aComp_x {fs tg t f ρ} : aComp fs tg t f ρ = (fs ρ).bind fun ds => if ds.length ≤ 16777216 then compL tg t f ds (wipeR ρ tg.ixs) else none := rfl
@[simp] theorem wipe_nil {ρ} : wipeR ρ [] = ρ := rfl
@[simp] theorem wipe_cons {ρ v vs} : wipeR ρ (v :: vs) = (wipeR ρ vs).set v .no := rfl
@[simp] theorem ixs_nm {i} : (Tg.nm i).ixs = [i] := rfl
@[simp] theorem ixs_tp {i} : (Tg.tp i).ixs = i := rfl
@[simp] theorem retOf_rt {d ρ} : retOf (.rt d ρ) = .ok d := rfl
@[simp] theorem retOf_rf {d ρ} : retOf (.rf d ρ) = .fr d := rfl
@[simp] theorem retOf_nx {d} : retOf (.nx d) = .ok .non := rfl
@[simp] theorem retOf_ite {p : Prop} [Decidable p] {a b : Out} : retOf (if p then a else b) = if p then retOf a else retOf b := by
  split <;> rfl
@[simp] theorem rangeD_len {lo n} : (rangeD lo n).length = n := by simp [rangeD]
end Fw
namespace Fw
open PySem PySem.Spec PyProof.Rows L2
def m_whole : Sf :=
    (sRet (eAnd (eArgs oIsi (aCons (eVar 0) (aCons (eC (.ty "int")) aNil))) (e1o oNot (eArgs oIsi (aCons (eVar 0) (aCons (eC (.ty "bool")) aNil))))))
def wholeF : List D → Ret := runF 1 m_whole
def m_cell : Sf :=
    (sSeq (sIf (tB1 (eBin oLt (eVar 1) (eArgs oLen (aCons (eVar 0) aNil))))
    (sRet (eBin oIx (eVar 0) (eVar 1)))
    sNext)
    (sSeq (sSet 2 (eC (.int 17)))
    (sSeq (sFor (aItems (eVar 0)) (.nm 3)
    (sSet 2 (eBin oMod (eArgs oToInt (aCons (eBin oAdd (eBin oMul (eVar 2) (eC (.int 31))) (eBin oMod (eArgs oToInt (aCons (eVar 3) aNil)) (eC (.int 1000003)))) aNil)) (eC (.int 1000003)))))
    (sRet (eBin oMod (eArgs oToInt (aCons (eBin oMul (eBin oMul (eBin oAdd (eVar 2) (eC (.int 7))) (eBin oAdd (eVar 1) (eC (.int 3)))) (eC (.int 69621))) aNil)) (eC (.int 2147483647)))))))
def cellF : List D → Ret := runF 4 m_cell
def m_digits2 : Sf :=
    (sSeq (sSetF 2 (aLst aNil))
    (sSeq (sSet 3 (eArgs oToInt (aCons (eVar 0) aNil)))
    (sSeq (sIf (tB1 (eBin oGe (eVar 3) (eBin oPow (eC (.int 10)) (eC (.int 18)))))
    (sSeq (sSet 3 (eBin oSub (eVar 3) (eBin oPow (eC (.int 10)) (eC (.int 18)))))
    (sSeq (sFor (aItems (eVar 1)) (.nm 4)
    (sSeq (sApp 2 (eBin oMod (eArgs oToInt (aCons (eVar 3) aNil)) (eVar 4)))
    (sSet 3 (eBin oFdiv (eArgs oToInt (aCons (eVar 3) aNil)) (eVar 4)))))
    (sRetV 2)))
    sNext)
    (sSeq (sSet 5 (eBin oMod (eArgs oToInt (aCons (eVar 3) aNil)) (eC (.int 2147483629))))
    (sSeq (sFor (aRng1 (aCons (eArgs oLen (aCons (eVar 1) aNil)) aNil)) (.nm 6)
    (sSeq (sSet 5 (eBin oMod (eArgs oToInt (aCons (eBin oAdd (eBin oAdd (eBin oMul (eVar 5) (eC (.int 48271))) (eBin oMul (eC (.int 974711)) (eVar 6))) (eC (.int 12345))) aNil)) (eC (.int 2147483647))))
    (sSeq (sSet 7 (eBin oMod (eArgs oToInt (aCons (eBin oMul (eVar 5) (eBin oAdd (eBin oFdiv (eVar 5) (eC (.int 65537))) (eC (.int 3)))) aNil)) (eC (.int 2147483629))))
    (sApp 2 (eBin oMod (eBin oFdiv (eVar 7) (eC (.int 19))) (eBin oIx (eVar 1) (eVar 6)))))))
    (sRetV 2))))))
def digits2F : List D → Ret := runF 8 m_digits2
end Fw
namespace Fw
open PySem PySem.Spec PyProof.Rows L2
@[simp] theorem eProp_x {c F f ρ} : eProp c F f ρ = (f ρ).bind fun d => match d with
  | .ins c' ds => if c' = c then (Fw.toD (F [.ins c ds])).bind scal else none
  | _ => none := rfl
@[simp] theorem scal_int {i} : scal (.int i) = some (.int i) := rfl
@[simp] theorem scal_bl {i} : scal (.bl i) = some (.bl i) := rfl
@[simp] theorem aMake_x {c F f ρ} : aMake c F f ρ = (f ρ).bind fun ds => (F ds).map fun zs => Ow.obj c zs := rfl
@[simp] theorem eMeth_x {c F f fs ρ} : eMeth c F f fs ρ = (f ρ).bind fun d => match d with
  | .ins c' ds => if c' = c then (fs ρ).bind fun zs => Fw.toD (F (.ins c ds :: zs)) else none
  | _ => none := by
  unfold eMeth
  cases f ρ with
  | none => rfl
  | some d => cases d <;> rfl
@[simp] theorem oLenO_x {c F ds} : oLenO c F [.ins c ds] = (Fw.toD (F [.ins c ds])).bind fun z => match z with
    | .int n => if 0 ≤ n ∧ n < 9223372036854775808 then some (.int n) else none
    | _ => none := if_pos rfl
def fst (ρ : Env) (i c j : Nat) (d : D) : Cell → Out
  | .own (.obj c' ds) => if c' = c then (if ds.length = j then .nx (ρ.set i (.own (.obj c (ds ++ [d])))) else if j < ds.length then .nx (ρ.set i (.own (.obj c (ds.set j d)))) else .stuck) else .stuck
  | _ => .stuck
@[simp] theorem fst_x {ρ i c j d ds} : fst ρ i c j d (.own (.obj c ds)) = if ds.length = j then .nx (ρ.set i (.own (.obj c (ds ++ [d])))) else if j < ds.length then .nx (ρ.set i (.own (.obj c (ds.set j d)))) else .stuck := if_pos rfl
@[simp] theorem sFst_x {i c j f ρ} : sFst i c j f ρ = opt (f ρ) fun d => fst ρ i c j d (cellAt ρ i) := by
  unfold sFst
  cases f ρ with
  | none =>
    show _ = Out.stuck
    split <;> simp_all
  | some d =>
    rw [opt_some]
    unfold fst
    cases cellAt ρ i with
    | own o => cases o <;> rfl
    | _ => rfl
end Fw
namespace Fw
open PySem PySem.Spec PyProof.Rows L2
theorem pys_ints : ∀ ns : List Int, pys (ns.map .int) = some (ns.map PyData.int)
  | [] => rfl
  | n :: r => by
    rw [List.map_cons, pys, pys_ints r]
    rfl
theorem cl_ints : ∀ ns : List Int, PyData.canLayAll0 (ns.map PyData.int) = true
  | [] => rfl
  | n :: r => by
    rw [List.map_cons, PyData.canLayAll0, cl_ints r]
    rfl
theorem dp_ints : ∀ ns : List Int, PyData.depthAll (ns.map PyData.int) = 0
  | [] => rfl
  | n :: r => by
    rw [List.map_cons, PyData.depthAll, dp_ints r]
    rfl
theorem ev_ints : ∀ a b : List Int, PyData.eqvAll (a.map PyData.int) (b.map PyData.int) = decide (a = b)
  | [], [] => rfl
  | [], _ :: _ => rfl
  | _ :: _, [] => rfl
  | x :: a, y :: b => by
    rw [List.map_cons, List.map_cons, PyData.eqvAll, ev_ints a b, PyData.eqv]
    by_cases h : x = y
    · subst h
      simp
    · simp [h]
theorem sh_tup (ns : List Int) : SeqAt.shaped (.tuple (ns.map .int)) = true := by
  unfold SeqAt.shaped
  rw [PyData.canLay0, PyData.depth, cl_ints, dp_ints]
  rfl
theorem sh_lst (ns : List Int) : SeqAt.shaped (.list (ns.map .int)) = true := by
  unfold SeqAt.shaped
  rw [PyData.canLay0, PyData.depth, cl_ints, dp_ints]
  rfl
theorem deq_sh {d e : D} {x y : PyData} (hd : py d = some x) (he : py e = some y) (sx : SeqAt.shaped x = true) (sy : SeqAt.shaped y = true) (hk : ∀ xs, x = .tuple xs ∨ x = .list xs → True) (h : (∃ xs, x = .tuple xs) ∨ ∃ xs, x = .list xs) : deq d e = some (PyData.eqv x y) := by
  have key : ((py d).bind fun x => (py e).bind fun y => if SeqAt.shaped x = true ∧ SeqAt.shaped y = true then some (PyData.eqv x y) else none) = some (PyData.eqv x y) := by
    rw [hd, Option.bind_some, he, Option.bind_some, if_pos ⟨sx, sy⟩]
  have nd : (∀ i, d ≠ .int i) ∧ (∀ i, d ≠ .str i) ∧ (∀ i, d ≠ .bl i) ∧ d ≠ .non := by
    refine ⟨fun i e => ?_, fun i e => ?_, fun i e => ?_, fun e => ?_⟩
    all_goals
      subst e
      simp only [py, Option.some.injEq] at hd
      subst hd
      rcases h with ⟨_, h⟩ | ⟨_, h⟩ <;> cases h
  unfold deq
  split
  · exact (nd.1 _ rfl).elim
  · exact (nd.2.1 _ rfl).elim
  · exact (nd.2.2.1 _ rfl).elim
  · exact (nd.2.2.2 rfl).elim
  · exact key
theorem py_tup (ns : List Int) : py (.tup (ns.map .int)) = some (.tuple (ns.map .int)) := by rw [py, pys_ints]; rfl
theorem py_lst (ns : List Int) : py (.lst (ns.map .int)) = some (.list (ns.map .int)) := by rw [py, pys_ints]; rfl
theorem deq_tups (a b : List Int) : deq (.tup (a.map .int)) (.tup (b.map .int)) = some (decide (a = b)) := by
  rw [deq_sh (py_tup a) (py_tup b) (sh_tup a) (sh_tup b) (fun _ _ => trivial) (.inl ⟨_, rfl⟩), PyData.eqv, ev_ints]
theorem deq_lsts (a b : List Int) : deq (.lst (a.map .int)) (.lst (b.map .int)) = some (decide (a = b)) := by
  rw [deq_sh (py_lst a) (py_lst b) (sh_lst a) (sh_lst b) (fun _ _ => trivial) (.inr ⟨_, rfl⟩), PyData.eqv, ev_ints]
@[simp] theorem oEq_tups (a b : List Int) : oEq (.tup (a.map .int)) (.tup (b.map .int)) = some (.bl (decide (a = b))) := by rw [oEq, deq_tups]; rfl
@[simp] theorem oEq_lsts (a b : List Int) : oEq (.lst (a.map .int)) (.lst (b.map .int)) = some (.bl (decide (a = b))) := by rw [oEq, deq_lsts]; rfl
def sto (ρ : Env) (i : Nat) (k : Int) (d : D) : Cell → Out
  | .own (.lst ds) => match ixN' ds.length k with
    | some j => .nx (ρ.set i (.own (.lst (ds.set j d))))
    | none => .stuck
  | _ => .stuck
@[simp] theorem sSto_x {i ix f ρ} : sSto i ix f ρ = opt (asI (ix ρ)) fun k => opt (f ρ) fun d => sto ρ i k d (cellAt ρ i) := by
  unfold sSto
  cases asI (ix ρ) with
  | none =>
    show _ = Out.stuck
    split <;> simp_all
  | some k =>
    rw [opt_some]
    cases f ρ with
    | none =>
      show _ = Out.stuck
      split <;> simp_all
    | some d =>
      rw [opt_some]
      unfold sto
      cases cellAt ρ i with
      | own o => cases o <;> rfl
      | _ => rfl
end Fw
namespace Fw
open PySem PySem.Spec PyProof.Rows L2
/-- a scalar's value -/
def scV : D → Option V
  | .non => some .non
  | .int i => some (.int i)
  | .bl b => some (.bl b)
  | .str x => some (.str x)
  | _ => none
theorem scV_den {d : D} {v : V} (h : scV d = some v) {K : PySem.W.Frag} {cl : Nat → ClsT} {G : Hp} : Den K cl G d v := by
  cases d <;> simp only [scV, Option.some.injEq, reduceCtorEq] at h
  all_goals
    subst h
    simp only [Den]
structure AtK (K : PySem.W.Frag) (mg : Str → Option Value) (x : Str) (st : Stmt) (y : Str) (dv : V) : Prop where
  ex : ∃ (f : Addr) (fd : FuncData), mg x = some (.ref f) ∧ FunD K x x (defArgs st) (defBody st) (defScope st) [] [(y, dv)] f fd
/-- a def with one keyword-only parameter y, its default d -/
structure DefK (P : Program) (wd : World) (K : PySem.W.Frag) (mg : Str → Option Value) (base : Heap) (cl : Nat → ClsT) (k : Nat) (x : Str) (np : Nat) (y : Str) (d : D) (F : List D → Ret) : Prop where
  ex : ∃ (f : Addr) (fd : FuncData) (ps : List Str), mg x = some (.ref f) ∧ PySem.W.keepIn K (.ref f) = true ∧ (∃ v, scV d = some v ∧ ∃ ds, Vals [v] ds ∧ Binds K fd ps ds) ∧ (∃ g : List Value → List Value → List Value, KBn K fd ps np [y] g (fun vs zs => vs ++ zs)) ∧ FnOk P wd K mg base CX0 k f fd ps (spF K cl (np + 1) F)
theorem DefK.mono {P wd K mg base cl j k x np y d F} (h : DefK P wd K mg base cl j x np y d F) (hj : j ≤ k) : DefK P wd K mg base cl k x np y d F :=
  let ⟨f, fd, ps, a, b, c, e, o⟩ := h.ex
  ⟨f, fd, ps, a, b, c, e, o.mono hj⟩
section
variable {P : Program} {wd : World} {K : PySem.W.Frag} {mg : Str → Option Value} {base : Heap} {cl : Nat → ClsT} {x y : Str} {st : Stmt} {N ps : List Str} {k np : Nat} {d : D} {dv : V}
theorem kdef_of {F : Sf} (hd : scV d = some dv) (a : AtK K mg x st y dv) (S : FnScope N ps (defScope st)) (hn : ps.length = np + 1)
    (hb : ∀ (D : Addr) (doc pm : Value) (an : Option Addr) (cdv ct : Value) (us ks : List Value), us.length = np → ks.length = 1 → KwChain D ([y].zip ks) (bindArgs (PySem.W.fnOf x x (defArgs st) (defBody st) (defScope st) .none (.ref D) doc pm an cdv ct) ⟨us, []⟩) (ps.zip (us ++ ks)))
    (hk : ∀ (D : Addr) (doc pm : Value) (an : Option Addr) (cdv ct : Value) (us ws : List Value), us.length = np → ws.length = 1 → bindArgs (PySem.W.fnOf x x (defArgs st) (defBody st) (defScope st) .none (.ref D) doc pm an cdv ct) ⟨us, [y].zip ws⟩ = pure (ps.zip (us ++ ws)))
    (body : ∀ (f : Addr) (cdv : Value) (A : Around) (outer : List PySem.Env) (s : Shared) (H : Hp) (E : XK) (G0 H0 : Hp) (sf : Nat → Addr), Room k (A.deeper (envOfC x (defScope st) s.heap.objs.size f cdv)) →
      VSs ⟨cl, G0, H0, sf, wNone, 0⟩ (XX P wd K mg base N x (defScope st) f cdv A outer s H E) (defBody st) F) : DefK P wd K mg base cl (k + 1) x np y d (runF N.length F) := by
  obtain ⟨f, fd, e, Fn⟩ := a.ex
  refine ⟨f, fd, ps, e, Fn.kp, ⟨dv, hd, ?_⟩, ?_, ?_⟩
  · exact Fn.binds0 np (fun z => nomatch z) (by rw [hn]; rfl) fun D doc pm an cdv ct us ks h1 h2 => hb D doc pm an cdv ct us ks h1 h2
  · obtain ⟨mv, z⟩ := Fn.kbinds0 (ps := ps) np [y] [] (fun us _ ws => us ++ ws) (fun z => nomatch z) (fun q hq => nomatch hq) (fun r1 _ r2 => r1.append r2) fun D doc pm an cdv ct us mv ws h1 h2 h3 => by
      obtain rfl : mv = [] := List.length_eq_zero_iff.mp h2
      exact hk D doc pm an cdv ct us ws h1 h3
    exact ⟨_, z⟩
  · rw [← hn]
    refine FunD_ok Fn S (fun vs H Q E h => ?_) (fun cdv A outer s H vs Q E hr h => ?_)
    · obtain ⟨G, ds, _, h2, h3, _⟩ := h
      rw [h2.length, h3]
    · obtain ⟨G, ds, h1, h2, h3, h4⟩ := h
      have hpl : ps.length ≤ N.length := by
        have := congrArg List.length S.pre
        rw [List.length_take] at this
        omega
      exact ⟨_, (body f cdv A outer s H E G H (fun _ => 0) hr).nox, body_run (X := XX P wd K mg base N x (defScope st) f cdv A outer s H E) h1 h2 (by omega) h4⟩
end
section
variable {X : Cx} {w : Wd} {e e1 : Expr} {es : List Expr} {fs : Af} {g f : Ef} {pos p kp : Pos} {x y : Str} {k np : Nat} {d : D} {F : List D → Ret}
def eCallD (F : List D → Ret) (d : D) (fs : Af) : Ef := fun ρ => (fs ρ).bind fun ds => toD (F (ds ++ [d]))
def eCallK (F : List D → Ret) (fs : Af) (g : Ef) : Ef := fun ρ => (fs ρ).bind fun ds => (g ρ).bind fun d => toD (F (ds ++ [d]))
theorem ve_callKd (h : DefK X.prog X.w X.K X.mg X.base w.cl k x np y d F) (hr : Room k X.A) (hg : Gl X x) (ha : VA w X (e :: es) fs) (hn : ALen fs np)
    (hdb : (x == ("__debug__" : Str)) = false := by decide) (he : starEach (e :: es) X.env = (false, eval e X.env) :: starEach es X.env := by rfl) (hpl : (backTo pos (starEach es X.env)).any (·.1) = false := by rfl) :
    VE w X (.Call (.Name x p) (e :: es) [] pos) (eCallD F d fs) := by
  obtain ⟨f, fd, ps, a, b, ⟨v, hv, dvs, r0, c⟩, _, o⟩ := h.ex
  refine PE.imp (pe_call (E := E0) o hr hg a b c r0 pass0 ha hdb he hpl) fun σ H Q ⟨ρ, G, z, r, hf, q⟩ => ?_
  obtain ⟨ds, e1, e2⟩ := bind_some2 hf
  refine ⟨ρ, G, ds, r, e1, fun vs H1 G1 g1 z1 => ?_⟩
  exact ⟨G1, ds ++ [d], g1.sub, z1.append (Dens.cons (scV_den hv) Dens.nil), by rw [List.length_append, hn ρ ds e1]; rfl, retP_of e2 fun v H' G' g' z' => q v H' G' (g1.trans g') z'⟩
theorem ve_callK (h : DefK X.prog X.w X.K X.mg X.base w.cl k x np y d F) (hr : Room k X.A) (hg : Gl X x) (ha : VA w X (e :: es) fs) (hn : ALen fs np) (hv : VE w X e1 g)
    (hall : (backToKw pos (keywordEach [⟨some y, e1, kp⟩] X.env)).all (·.1.isSome) = true := by rfl) (hks : (backToKw pos (keywordEach [⟨some y, e1, kp⟩] X.env)).filterMap (·.1) = [y] := by rfl)
    (hdb : (x == ("__debug__" : Str)) = false := by decide) (he : starEach (e :: es) X.env = (false, eval e X.env) :: starEach es X.env := by rfl)
    (hpl : ((backTo pos (starEach (e :: es) X.env)).any (·.1) || (backToKw pos (keywordEach [⟨some y, e1, kp⟩] X.env)).any (·.1.isNone)) = false := by rfl) :
    VE w X (.Call (.Name x p) (e :: es) [⟨some y, e1, kp⟩] pos) (eCallK F fs g) := by
  obtain ⟨f, fd, ps, a, b, _, ⟨gg, kb⟩, o⟩ := h.ex
  refine PE.imp (pe_callN (E := E0) o hr hg a b kb pass0 ha (pk_cons hv pk_nil) hall hks hdb he hpl) fun σ H Q ⟨ρ, G, z, r, hf, q⟩ => ?_
  obtain ⟨ds, e1, hf⟩ := bind_some2 hf
  obtain ⟨d1, e2, e3⟩ := bind_some2 hf
  refine ⟨ρ, G, ds, r, e1, fun vs H1 G1 g1 z1 => ⟨ρ, G1, d1, r.go g1, e2, fun v H2 G2 g2 z2 => ?_⟩⟩
  refine ⟨by rw [z1.length, hn ρ ds e1], rfl, G2, ds ++ [d1], g2.sub, (z1.mono g2.gg).append (Dens.cons z2 Dens.nil), by rw [List.length_append, hn ρ ds e1]; rfl, retP_of e3 fun v H' G' g' z' => q v H' G' (g1.trans (g2.trans g')) z'⟩
@[simp] theorem eCallD_x {F d fs ρ} : eCallD F d fs ρ = (fs ρ).bind fun ds => toD (F (ds ++ [d])) := rfl
@[simp] theorem eCallK_x {F fs g ρ} : eCallK F fs g ρ = (fs ρ).bind fun ds => (g ρ).bind fun d => toD (F (ds ++ [d])) := rfl
open Classical in
noncomputable def lr2 : D → D → Option (List D)
  | .int a, .int b => if RgOk a b then some (rangeD a (b - a).toNat) else none
  | _, _ => none
noncomputable def aLR1 (f : Ef) : Af := fun ρ => (f ρ).bind fun b => lr2 (.int 0) b
noncomputable def aLR2 (f g : Ef) : Af := fun ρ => (f ρ).bind fun a => (g ρ).bind fun b => lr2 a b
@[simp] theorem aLR1_x {f ρ} : aLR1 f ρ = (f ρ).bind fun b => lr2 (.int 0) b := rfl
@[simp] theorem aLR2_x {f g ρ} : aLR2 f g ρ = (f ρ).bind fun a => (g ρ).bind fun b => lr2 a b := rfl
end
end Fw
namespace Fw
open PySem PySem.Spec PyProof.Rows L2
/-- the ints lo .. as a list -/
def rg (n : Nat) : List Int := (List.range n).map fun i : Nat => (i : Int)
@[simp] theorem rg_len {n : Nat} : (rg n).length = n := by unfold rg; rw [List.length_map, List.length_range]
theorem rg_get {n i : Nat} {v : Int} (h : (rg n)[i]? = some v) : i < n ∧ v = i := by
  unfold rg at h
  rw [List.getElem?_map] at h
  obtain ⟨k, e1, e2⟩ := map_some2 h
  obtain ⟨hlt, e3⟩ := List.getElem?_eq_some_iff.mp e1
  rw [List.length_range] at hlt
  rw [List.getElem_range] at e3
  subst e3
  exact ⟨hlt, e2.symm⟩
end Fw
namespace Fw
open PySem PySem.Spec PyProof.Rows L2
end Fw
namespace Fw
open PySem PySem.Spec PyProof.Rows L2
def keyD : D → Option L2.Key
  | .int i => some (.inl i)
  | .str x => some (.inr x)
  | _ => none
def dGet : List L2.Key → List D → L2.Key → Option D
  | k' :: ks, d :: ds, k => if k' = k then some d else dGet ks ds k
  | _, _, _ => none
section
variable {X : Cx} {w : Wd} {e eo ek : Expr} {f g h : Ef} {pos p : Pos} {x : Str} {i j : Nat}
/-- d[k] -/
def oDGet (d k : D) : Option D := match d with
  | .dic ks ds => (keyD k).bind fun k => dGet ks ds k
  | _ => none
/-- k in d -/
def oDIn (neg : Bool) (k d : D) : Option D := match d with
  | .dic ks ds => (keyD k).map fun k => .bl (if neg then !(dGet ks ds k).isSome else (dGet ks ds k).isSome)
  | _ => none
@[simp] theorem oDGet_x {ks ds k} : oDGet (.dic ks ds) k = (keyD k).bind fun k => dGet ks ds k := rfl
@[simp] theorem oDIn_x {ks ds k} : oDIn false k (.dic ks ds) = (keyD k).map fun k => .bl (dGet ks ds k).isSome := rfl
@[simp] theorem oDNotIn_x {ks ds k} : oDIn true k (.dic ks ds) = (keyD k).map fun k => .bl (!(dGet ks ds k).isSome) := rfl
@[simp] theorem keyD_int {i} : keyD (.int i) = some (.inl i) := rfl
@[simp] theorem setN_dic {i ρ ks ds} : setN i ρ (.dic ks ds) = .nx (ρ.set i (.own (.dic ks ds))) := rfl
end
end Fw
namespace Fw
open PySem PySem.Spec PyProof.Rows L2
section
variable {X : Cx} {w : Wd} {e o eo ek : Expr} {f g h : Ef} {fs : Af} {pos p apos cpos : Pos} {x : Str} {i j k : Nat} {F : List D → Ret}
def eCall0 (F : List D → Ret) : Ef := fun _ => toD (F [])
def aCall0 (F : List D → Ret) : Env → Option Ow := fun _ => toFr (F [])
def oBits : D → Option D
  | .int i => some (.int (Builtin.Int.intBits i : Nat))
  | _ => none
theorem ve_bits (ho : VO w X o f) (hbase : attributeBase o "bit_length" X.env (eval o X.env) = eval o X.env := by rfl) (hline : (apos.endLine == pos.line) = true := by rfl) : VE w X (.Call (.Attribute o "bit_length" apos) [] [] pos) (e1o oBits f) :=
  PE.imp (pe_bits ho hbase hline) fun σ H Q ⟨ρ, G, z, r, hf, q⟩ => by
    obtain ⟨d, e1, hf⟩ := bind_some2 hf
    refine seqO r e1 fun v H1 G1 g1 r1 z1 => ?_
    unfold oBits at hf
    split at hf
    · rename_i i
      cases hf
      exact ⟨i, obs_int z1, q _ H1 G1 g1 mk_int⟩
    · cases hf
/-- d.get(k) -/
def oDGet1 (d k : D) : Option D := match d with
  | .dic ks ds => (keyD k).map fun k => (dGet ks ds k).getD .non
  | _ => none
def oLenD : List D → Option D
  | [.dic ks ds] => some (.int ds.length)
  | _ => none
@[simp] theorem eCall0_x {F ρ} : eCall0 F ρ = toD (F []) := rfl
@[simp] theorem aCall0_x {F ρ} : aCall0 F ρ = toFr (F []) := rfl
@[simp] theorem oBits_x {i} : oBits (.int i) = some (.int (Builtin.Int.intBits i : Nat)) := rfl
@[simp] theorem oDGet1_x {ks ds k} : oDGet1 (.dic ks ds) k = (keyD k).map fun k => (dGet ks ds k).getD .non := rfl
@[simp] theorem oLenD_x {ks ds} : oLenD [.dic ks ds] = some (.int ds.length) := rfl
end
end Fw
namespace Fw
open PySem PySem.Spec PyProof.Rows L2
def enumD (ds : List D) : List D := (List.range ds.length).zipWith (fun i d => .tup [.int (i : Nat), d]) ds
@[simp] theorem enumD_len {ds : List D} : (enumD ds).length = ds.length := by
  unfold enumD
  rw [List.length_zipWith, List.length_range, Nat.min_self]
section
variable {X : Cx} {w : Wd} {e e2 : Expr} {f g : Ef} {fs : Af} {pos p tpos : Pos} {elts : List Expr} {kk : Nat} {tg : Expr}
def aEnum (f : Ef) : Af := fun ρ => ((f ρ).bind seqOf).map enumD
def aRev (f : Ef) : Af := fun ρ => ((f ρ).bind seqOf).map List.reverse
@[simp] theorem aRev_x {f ρ} : aRev f ρ = ((f ρ).bind seqOf).map List.reverse := rfl
@[simp] theorem aEnum_x {f ρ} : aEnum f ρ = ((f ρ).bind seqOf).map enumD := rfl
end
end Fw
namespace Fw
open PySem PySem.Spec PyProof.Rows L2
open AutoSeq1 (wpAny_loadPart')
section
variable {X : Cx} {w : Wd} {e : Expr} {f : Ef} {pos p tpos : Pos} {elts : List Expr} {kk : Nat}
/-- enumerate of a list or a tuple -/
def aEnumA (f : Ef) : Af := fun ρ => ((f ρ).bind itemsOf).map enumD
@[simp] theorem aEnumA_x {f ρ} : aEnumA f ρ = ((f ρ).bind itemsOf).map enumD := rfl
end
end Fw
namespace Fw
open PySem PySem.Spec PyProof.Rows L2
end Fw
namespace Fw
open PySem PySem.Spec PyProof.Rows L2
section
variable {K : PySem.W.Frag} {w : Wd} {σ : L2.St} {G G' H H' : Hp} {ρ ρ' : Env} {cl : Nat → ClsT}
/-- where the trees stand -/
def TreW (K : PySem.W.Frag) (w : Wd) (σ : L2.St) (H G : Hp) (ρ : Env) (fp : Nat → List Addr) : Prop :=
  ∀ (i : Nat) (k : Bool) (t : OT), ρ[i]? = some (.tre k t) → ∃ v, σ[i]? = some (some v) ∧ OAt K w.cl H G t v (fp i) ∧ (fp i).Nodup ∧ (k = true → v = .ref (w.sf i)) ∧
    ∀ b ∈ fp i, G b = none ∧ w.H0 b = none ∧ NoOwn σ ρ b ∧ ∀ (j : Nat) (k' : Bool) (t' : OT), ρ[j]? = some (.tre k' t') → b ∈ fp j → j = i
theorem Rep.trees (r : Rep K w σ H G ρ) : ∃ fp, TreW K w σ H G ρ fp := r.tre
theorem TreW.go {fp : Nat → List Addr} (q : TreW K w σ H G ρ fp) (g : Grow H G H' G') : TreW K w σ H' G' ρ fp := fun i k t hi => by
  obtain ⟨v, e1, e2, e3, e4, e5⟩ := q i k t hi
  refine ⟨v, e1, e2.move g.gg fun b hb => (g.keep (e2.at b hb) (e5 b hb).1).1, e3, e4, fun b hb => ?_⟩
  obtain ⟨k1, k2, k3, k4⟩ := e5 b hb
  exact ⟨(g.keep (e2.at b hb) k1).2, k2, k3, k4⟩
/-- nobody's -/
def Free (w : Wd) (σ : L2.St) (ρ : Env) (fp : Nat → List Addr) (b : Addr) : Prop :=
  w.H0 b = none ∧ NoOwn σ ρ b ∧ ∀ (m : Nat) (k : Bool) (t : OT), ρ[m]? = some (.tre k t) → b ∉ fp m
theorem Rep.free (r : Rep K w σ H G ρ) {fp : Nat → List Addr} (q : TreW K w σ H G ρ fp) {b : Addr} (h : H b = none) : Free w σ ρ fp b :=
  ⟨r.base.ext.free h, r.away h, fun m k t hm hb => by
    obtain ⟨v, e1, e2, _⟩ := q m k t hm
    exact e2.at b hb h⟩
/-- some trees are changed at once -/
theorem Rep.swap (r : Rep K w σ H G ρ) {fp : Nat → List Addr} (q : TreW K w σ H G ρ fp) (S : Nat → Prop) (ρ' : Env) (hl : ρ'.length = ρ.length)
    (hsame : ∀ j, ¬ S j → ρ'[j]? = ρ[j]?) (hS : ∀ j, S j → ∃ k t t', ρ[j]? = some (.tre k t) ∧ ρ'[j]? = some (.tre k t')) (g : Same G G') (sub : Same G' H')
    (keep : ∀ b o, H b = some o → (∀ j, S j → b ∉ fp j) → ¬ Free w σ ρ fp b → H' b = some o) (gn : ∀ b, G' b ≠ none → G b ≠ none ∨ (∃ j, S j ∧ b ∈ fp j) ∨ Free w σ ρ fp b)
    (fp' : Nat → List Addr) (hfp : ∀ j, ¬ S j → fp' j = fp j)
    (new : ∀ j, S j → ∀ k t v, ρ'[j]? = some (.tre k t) → σ[j]? = some (some v) → OAt K w.cl H' G' t v (fp' j) ∧ (fp' j).Nodup ∧
      ∀ b ∈ fp' j, G' b = none ∧ ((∃ m, S m ∧ b ∈ fp m) ∨ Free w σ ρ fp b) ∧ ∀ m, S m → b ∈ fp' m → m = j) :
    Rep K w σ H' G' ρ' ∧ TreW K w σ H' G' ρ' fp' := by
  have nS : ∀ b (m : Nat), S m → b ∈ fp m → G b = none ∧ w.H0 b = none ∧ NoOwn σ ρ b ∧ ∀ (j : Nat) (k' : Bool) (t' : OT), ρ[j]? = some (.tre k' t') → b ∈ fp j → j = m := fun b m hm hb => by
    obtain ⟨k, t, t', h1, _⟩ := hS m hm
    obtain ⟨v, e1, e2, e3, e4, e5⟩ := q m k t h1
    exact e5 b hb
  have back : ∀ (j : Nat) (c : Cell), ρ'[j]? = some c → (∀ k t, c ≠ .tre k t) → ρ[j]? = some c := fun j c hj hc => by
    by_cases hs : S j
    · obtain ⟨k, t, t', h1, h2⟩ := hS j hs
      rw [h2] at hj
      cases hj
      exact absurd rfl (hc k t')
    · rw [← hsame j hs]
      exact hj
  have noown : ∀ b, NoOwn σ ρ b → NoOwn σ ρ' b := fun b h j o hj => h j o (back j _ hj fun _ _ z => nomatch z)
  have keepOwn : ∀ (j : Nat) (o : Ow) (a : Addr) (ho : HO), ρ[j]? = some (.own o) → σ[j]? = some (some (.ref a)) → H a = some ho → H' a = some ho := fun j o a ho hj hs ha =>
    keep a ho ha (fun m hm hb => (nS a m hm hb).2.2.1 j o hj hs) fun z => z.2.1 j o hj hs
  have gkeep : ∀ (b : Addr), ¬ Free w σ ρ fp b → G b = none → (∀ m, S m → b ∉ fp m) → G' b = none := fun b h1 h2 h3 => by
    cases z : G' b with
    | none => rfl
    | some x =>
      rcases gn b (by rw [z]; exact fun y => nomatch y) with y | ⟨m, y1, y2⟩ | y
      · exact absurd h2 y
      · exact absurd y2 (h3 m y1)
      · exact absurd y h1
  have tw : TreW K w σ H' G' ρ' fp' := fun i k t hi => by
    by_cases hs : S i
    · obtain ⟨k0, t0, t1, h1, h2⟩ := hS i hs
      rw [h2] at hi
      cases hi
      obtain ⟨v, e1, e2, e3, e4, e5⟩ := q i k t0 h1
      obtain ⟨n1, n2, n3⟩ := new i hs k t v h2 e1
      refine ⟨v, e1, n1, n2, e4, fun b hb => ?_⟩
      obtain ⟨m1, m2, m3⟩ := n3 b hb
      refine ⟨m1, ?_, ?_, fun j k' t' hj hb' => ?_⟩
      · rcases m2 with ⟨m, z1, z2⟩ | z
        · exact (nS b m z1 z2).2.1
        · exact z.1
      · rcases m2 with ⟨m, z1, z2⟩ | z
        · exact noown b (nS b m z1 z2).2.2.1
        · exact noown b z.2.1
      · by_cases hsj : S j
        · exact m3 j hsj hb'
        · rw [hfp j hsj] at hb'
          rw [hsame j hsj] at hj
          rcases m2 with ⟨m, z1, z2⟩ | z
          · have := (nS b m z1 z2).2.2.2 j k' t' hj hb'
            subst this
            exact absurd z1 hsj
          · exact absurd hb' (z.2.2 j k' t' hj)
    · rw [hsame i hs] at hi
      obtain ⟨v, e1, e2, e3, e4, e5⟩ := q i k t hi
      have off : ∀ b ∈ fp i, ∀ m, S m → b ∉ fp m := fun b hb m hm hb' => by
        have := (nS b m hm hb').2.2.2 i k t hi hb
        subst this
        exact hs hm
      rw [hfp i hs]
      refine ⟨v, e1, e2.move g fun b hb => ?_, e3, e4, fun b hb => ?_⟩
      · cases z : H b with
        | none => exact absurd z (e2.at b hb)
        | some o => exact keep b o z (off b hb) fun y => y.2.2 i k t hi hb
      · obtain ⟨k1, k2, k3, k4⟩ := e5 b hb
        refine ⟨?_, k2, noown b k3, fun j k' t' hj hb' => ?_⟩
        · exact gkeep b (fun z => z.2.2 i k t hi hb) k1 (off b hb)
        · by_cases hsj : S j
          · obtain ⟨k0, t0, t1, h1, h2⟩ := hS j hsj
            obtain ⟨v', e1', _⟩ := q j k0 t0 h1
            rw [h2] at hj
            cases hj
            obtain ⟨n1, n2, n3⟩ := new j hsj k' t' v' h2 e1'
            obtain ⟨m1, m2, m3⟩ := n3 b hb'
            rcases m2 with ⟨m, z1, z2⟩ | z
            · exact absurd z2 (off b hb m z1)
            · exact absurd hb (z.2.2 i k t hi)
          · rw [hfp j hsj] at hb'
            rw [hsame j hsj] at hj
            exact k4 j k' t' hj hb'
  refine ⟨⟨⟨fun c o hc => ?_, r.base.gext.trans g, sub, fun b hb => ?_⟩, by rw [hl]; exact r.len, fun i d hi => ?_, fun i o hi => ?_, fun i c ds hi => ?_, fun i j o o' a hi hj h1 h2 => ?_, ⟨fp', tw⟩, fun i hi => r.xc i (back i _ hi fun _ _ z => nomatch z)⟩, tw⟩
  · exact keep c o (r.base.ext _ _ hc) (fun m hm hb => by
      have := (nS c m hm hb).2.1
      rw [hc] at this
      cases this) fun y => by
      rw [y.1] at hc
      cases hc
  · rcases gn b hb with y | ⟨m, y1, y2⟩ | y
    · exact r.base.new b y
    · exact .inr (nS b m y1 y2).2.1
    · exact .inr y.1
  · obtain ⟨v, e1, e2⟩ := r.sh i d (back i _ hi fun _ _ z => nomatch z)
    exact ⟨v, e1, e2.mono g⟩
  · have hi' := back i _ hi fun _ _ z => nomatch z
    obtain ⟨a, ho, e1, e2, e3, e4, e5⟩ := r.own i o hi'
    exact ⟨a, ho, e1, keepOwn i o a ho hi' e1 e2, gkeep a (fun z => z.2.1 i o hi' e1) e3 fun m hm hb => (nS a m hm hb).2.2.1 i o hi' e1, e4, e5.mono g⟩
  · exact r.slf i c ds (back i _ hi fun _ _ z => nomatch z)
  · exact r.dis i j o o' a (back i _ hi fun _ _ z => nomatch z) (back j _ hj fun _ _ z => nomatch z) h1 h2
/-- one tree is changed -/
theorem Rep.updT (r : Rep K w σ H G ρ) {fp : Nat → List Addr} (q : TreW K w σ H G ρ fp) {i : Nat} {k : Bool} {t t' : OT} {v : V} {fi : List Addr} (hi : ρ[i]? = some (.tre k t)) (hv : σ[i]? = some (some v))
    (ht : OAt K w.cl H' G' t' v fi) (nd : fi.Nodup) (new : ∀ b ∈ fi, G' b = none ∧ (b ∈ fp i ∨ Free w σ ρ fp b)) (g : Same G G') (sub : Same G' H') (keep : ∀ b o, H b = some o → b ∉ fp i → H' b = some o)
    (gn : ∀ b, G' b ≠ none → G b ≠ none ∨ b ∈ fp i ∨ Free w σ ρ fp b) :
    Rep K w σ H' G' (ρ.set i (.tre k t')) ∧ TreW K w σ H' G' (ρ.set i (.tre k t')) (fun j => if j = i then fi else fp j) := by
  have hlt : i < ρ.length := (List.getElem?_eq_some_iff.mp hi).1
  refine r.swap q (fun j => j = i) _ (List.length_set ..) (fun j hj => getset_ne hj) (fun j hj => ⟨k, t, t', hj ▸ hi, by rw [hj]; exact List.getElem?_set_self hlt⟩) g sub (fun b o hb h _ => keep b o hb (h i rfl))
    (fun b hb => (gn b hb).imp id fun z => z.imp (fun z => ⟨i, rfl, z⟩) id) _ (fun j hj => if_neg hj) fun j hj k' t1 v' h1 h2 => ?_
  subst hj
  rw [List.getElem?_set_self hlt] at h1
  cases h1
  rw [hv] at h2
  cases h2
  rw [if_pos rfl]
  refine ⟨ht, nd, fun b hb => ⟨(new b hb).1, (new b hb).2.imp (fun z => ⟨j, rfl, z⟩) id, fun m hm _ => hm⟩⟩
/-- a name gets a tree -/
theorem Rep.setT (r : Rep K w σ H G ρ) {fp : Nat → List Addr} (q : TreW K w σ H G ρ fp) (i : Nat) {t : OT} {v : V} {f : List Addr} (ht : OAt K w.cl H G t v f) (nd : f.Nodup)
    (hf : ∀ b ∈ f, G b = none ∧ w.H0 b = none ∧ (∀ (j : Nat) (o : Ow), j ≠ i → ρ[j]? = some (.own o) → σ[j]? ≠ some (some (.ref b))) ∧ ∀ (m : Nat) (k : Bool) (t : OT), m ≠ i → ρ[m]? = some (.tre k t) → b ∉ fp m) :
    Rep K w (σ.set i (some v)) H G (ρ.set i (.tre false t)) := by
  have hl := r.len
  have ne : ∀ (j : Nat) (c : Cell), (ρ.set i (.tre false t))[j]? = some c → (j = i ∧ c = .tre false t ∧ i < ρ.length) ∨ (j ≠ i ∧ ρ[j]? = some c) := fun j c hj => by
    by_cases e : j = i
    · subst e
      exact .inl ⟨rfl, (getset_self hj).1, (getset_self hj).2⟩
    · rw [getset_ne e] at hj
      exact .inr ⟨e, hj⟩
  refine ⟨r.base, by rw [List.length_set, List.length_set, hl], fun j d hj => ?_, fun j o hj => ?_, fun j c ds hj => ?_, fun j m o o' a hj hm h1 h2 => ?_, ⟨fun j => if j = i then f else fp j, fun j k t1 hj => ?_⟩, xc_set r.xc (fun z => nomatch z)⟩
  · rcases ne j _ hj with ⟨_, z, _⟩ | ⟨e, z⟩
    · cases z
    · rw [getset_ne e]
      exact r.sh j d z
  · rcases ne j _ hj with ⟨_, z, _⟩ | ⟨e, z⟩
    · cases z
    · rw [getset_ne e]
      exact r.own j o z
  · rcases ne j _ hj with ⟨_, z, _⟩ | ⟨e, z⟩
    · cases z
    · rw [getset_ne e]
      exact r.slf j c ds z
  · rcases ne j _ hj with ⟨_, z, _⟩ | ⟨e, z⟩
    · cases z
    · rcases ne m _ hm with ⟨_, z', _⟩ | ⟨e', z'⟩
      · cases z'
      · rw [getset_ne e] at h1
        rw [getset_ne e'] at h2
        exact r.dis j m o o' a z z' h1 h2
  · rcases ne j _ hj with ⟨e, z, hlt⟩ | ⟨e, z⟩
    · subst e
      cases z
      dsimp only
      rw [if_pos rfl]
      refine ⟨v, List.getElem?_set_self (by omega), ht, nd, (fun z => Bool.noConfusion z), fun b hb => ?_⟩
      obtain ⟨f1, f2, f3, f4⟩ := hf b hb
      refine ⟨f1, f2, fun m o hm => ?_, fun m k' t' hm hb' => ?_⟩
      · rcases ne m _ hm with ⟨_, z, _⟩ | ⟨e, z⟩
        · cases z
        · rw [getset_ne e]
          exact f3 m o e z
      · by_cases e : m = j
        · exact e
        · rw [if_neg e] at hb'
          rw [getset_ne e] at hm
          exact absurd hb' (f4 m k' t' e hm)
    · dsimp only
      rw [if_neg e, getset_ne e]
      obtain ⟨u, e1, e2, e3, e4, e5⟩ := q j k t1 z
      refine ⟨u, e1, e2, e3, e4, fun b hb => ?_⟩
      obtain ⟨k1, k2, k3, k4⟩ := e5 b hb
      refine ⟨k1, k2, fun m o hm => ?_, fun m k' t' hm hb' => ?_⟩
      · rcases ne m _ hm with ⟨_, z, _⟩ | ⟨e, z⟩
        · cases z
        · rw [getset_ne e]
          exact k3 m o z
      · by_cases e' : m = i
        · subst e'
          rw [if_pos rfl] at hb'
          exact absurd hb ((hf b hb').2.2.2 j k t1 e z)
        · rw [if_neg e'] at hb'
          rw [getset_ne e'] at hm
          exact k4 m k' t' hm hb'
end
section
variable {K : PySem.W.Frag} {w : Wd} {σ : L2.St} {G G' H H' : Hp} {ρ ρ' : Env} {cl : Nat → ClsT}
theorem OAts.ofDens : ∀ {ds : List D} {vs : List V}, Dens K cl G ds vs → OAts K cl H G (ds.map .sh) vs []
  | [], vs, h => by
    simp only [Dens] at h
    simp only [List.map_nil, OAts]
    exact ⟨h, trivial⟩
  | d :: ds, vs, h => by
    simp only [Dens] at h
    obtain ⟨v, r, h1, h2, h3⟩ := h
    simp only [List.map_cons, OAts]
    exact ⟨v, r, [], [], h1, rfl, by simp only [OAt]; exact ⟨trivial, h2⟩, OAts.ofDens h3⟩
def Ow.toT : Ow → OT
  | .lst ds => .lst (ds.map .sh)
  | .dic ks ds => .dic ks (ds.map .sh)
  | .obj c ds => .obj c (ds.map .sh)
theorem OwOk.oat {o : Ow} {ho : HO} {a : Addr} (h : OwOk K cl G o ho) (ha : H a = some ho) (hn : ∀ c ds, o ≠ .obj c ds) : OAt K cl H G o.toT (.ref a) [a] := by
  cases o with
  | lst ds =>
    obtain ⟨vs, rfl, z⟩ := h
    simp only [Ow.toT, OAt]
    exact ⟨a, vs, [], rfl, ha, rfl, OAts.ofDens z⟩
  | dic ks ds =>
    obtain ⟨vs, rfl, l, z⟩ := h
    simp only [Ow.toT, OAt]
    exact ⟨a, vs, [], rfl, ha, by rw [List.length_map]; exact l, rfl, OAts.ofDens z⟩
  | obj c ds => exact absurd rfl (hn c ds)
/-- a flat object becomes a tree -/
def toT (i : Nat) (ρ : Env) : Env := match cellAt ρ i with
  | .own (.lst ds) => ρ.set i (.tre false (.lst (ds.map .sh)))
  | .own (.dic ks ds) => ρ.set i (.tre false (.dic ks (ds.map .sh)))
  | _ => ρ
theorem set_self {α : Type} {l : List α} {i : Nat} {x : α} (h : l[i]? = some x) : l.set i x = l := by
  refine List.ext_getElem? fun j => ?_
  by_cases e : j = i
  · subst e
    rw [List.getElem?_set_self (List.getElem?_eq_some_iff.mp h).1, h]
  · rw [getset_ne e]
theorem Rep.toTo (r : Rep K w σ H G ρ) {i : Nat} {o : Ow} (hi : ρ[i]? = some (.own o)) (hn : ∀ c ds, o ≠ .obj c ds) : Rep K w σ H G (ρ.set i (.tre false o.toT)) := by
  obtain ⟨a, ho, e1, e2, e3, e4, e5⟩ := r.own i o hi
  obtain ⟨fp, q⟩ := r.trees
  have := r.setT q i (e5.oat e2 hn) (by simp) fun b hb => by
    rw [List.mem_singleton.mp hb]
    exact ⟨e3, e4, fun j o' hj h1 h2 => hj (r.dis j i o' o a h1 hi h2 e1), fun m k t _ hm hb' => by
      obtain ⟨v, f1, f2, f3, f4, f5⟩ := q m k t hm
      exact (f5 a hb').2.2.1 i o hi e1⟩
  rwa [set_self e1] at this
theorem Rep.toT (r : Rep K w σ H G ρ) (i : Nat) : Rep K w σ H G (Fw.toT i ρ) := by
  unfold Fw.toT
  split
  · rename_i ds e
    exact r.toTo (cellAt_get e (fun z => nomatch z)) (fun _ _ z => nomatch z)
  · rename_i ks ds e
    exact r.toTo (cellAt_get e (fun z => nomatch z)) (fun _ _ z => nomatch z)
  · exact r
mutual
theorem OAt.den (g : Same G G') : ∀ {t : OT} {v : V} {fp : List Addr}, OAt K cl H G t v fp → (∀ b ∈ fp, G' b = H b) → Den K cl G' t.toD v
  | .sh d, v, fp, h, _ => by
    simp only [OAt] at h
    simp only [OT.toD]
    exact h.2.mono g
  | .lst xs, v, fp, h, e => by
    simp only [OAt] at h
    simp only [OT.toD, Den]
    obtain ⟨a, vs, fs, h1, h2, h3, h4⟩ := h
    subst h3
    exact ⟨a, vs, h1, (e a (List.mem_cons_self ..)).trans h2, OAts.dens g h4 fun b hb => e b (List.mem_cons_of_mem _ hb)⟩
  | .dic ks xs, v, fp, h, e => by
    simp only [OAt] at h
    simp only [OT.toD, Den]
    obtain ⟨a, vs, fs, h1, h2, h0, h3, h4⟩ := h
    subst h3
    have := OAts.dens g h4 fun b hb => e b (List.mem_cons_of_mem _ hb)
    exact ⟨a, vs, h1, (e a (List.mem_cons_self ..)).trans h2, by rw [h0, ← h4.length, this.length], this⟩
  | .obj c xs, v, fp, h, e => by
    simp only [OAt] at h
    simp only [OT.toD, Den]
    obtain ⟨a, dx, vs, fs, h1, h2, h0, h3, h4⟩ := h
    subst h3
    exact ⟨a, dx, vs, h1, (e a (List.mem_cons_self ..)).trans h2, OAts.dens g h4 fun b hb => e b (List.mem_cons_of_mem _ hb)⟩
theorem OAts.dens (g : Same G G') : ∀ {ts : List OT} {vs : List V} {fp : List Addr}, OAts K cl H G ts vs fp → (∀ b ∈ fp, G' b = H b) → Dens K cl G' (OT.toDs ts) vs
  | [], vs, fp, h, _ => by
    simp only [OAts] at h
    simp only [OT.toDs, Dens]
    exact h.1
  | x :: xs, vs, fp, h, e => by
    simp only [OAts] at h
    simp only [OT.toDs, Dens]
    obtain ⟨v, r, f1, f2, h1, h2, h3, h4⟩ := h
    subst h2
    exact ⟨v, r, h1, OAt.den g h3 fun b hb => e b (List.mem_append_left _ hb), OAts.dens g h4 fun b hb => e b (List.mem_append_right _ hb)⟩
end
/-- what stands at fp becomes stable -/
def lay (G H : Hp) (fp : List Addr) : Hp := fun b => if b ∈ fp then H b else G b
theorem lay_in {fp : List Addr} {b : Addr} (h : b ∈ fp) : lay G H fp b = H b := if_pos h
theorem lay_out {fp : List Addr} {b : Addr} (h : b ∉ fp) : lay G H fp b = G b := if_neg h
theorem lay_same {fp : List Addr} (h : ∀ b ∈ fp, G b = none) : Same G (lay G H fp) := fun b o hb => by
  rw [lay_out fun z => by rw [h b z] at hb; cases hb]
  exact hb
theorem lay_sub {fp : List Addr} (s : Same G H) : Same (lay G H fp) H := fun b o hb => by
  by_cases e : b ∈ fp
  · rw [lay_in e] at hb
    exact hb
  · rw [lay_out e] at hb
    exact s _ _ hb
theorem TreW.clear {fp : Nat → List Addr} (q : TreW K w σ H G ρ fp) (i : Nat) : TreW K w σ H G (ρ.set i .no) fp := fun j k t hj => by
  obtain ⟨v, e1, e2, e3, e4, e5⟩ := q j k t (set_no hj fun z => nomatch z).1
  refine ⟨v, e1, e2, e3, e4, fun b hb => ?_⟩
  obtain ⟨k1, k2, k3, k4⟩ := e5 b hb
  exact ⟨k1, k2, fun m o hm => k3 m o (set_no hm fun z => nomatch z).1, fun m k' t' hm hb' => k4 m k' t' (set_no hm fun z => nomatch z).1 hb'⟩
end
end Fw
namespace Fw
open PySem PySem.Spec PyProof.Rows L2
def OT.kids : OT → List OT
  | .sh _ => []
  | .lst xs => xs
  | .dic _ xs => xs
  | .obj _ xs => xs
def OT.withKids : OT → List OT → OT
  | .sh d, _ => .sh d
  | .lst _, xs => .lst xs
  | .dic ks _, xs => .dic ks xs
  | .obj c _, xs => .obj c xs
def OT.at : OT → List Nat → Option OT
  | t, [] => some t
  | t, n :: p => match t.kids[n]? with
    | some c => c.at p
    | none => none
def OT.put : OT → List Nat → OT → OT
  | _, [], s => s
  | t, n :: p, s => match t.kids[n]? with
    | some c => t.withKids (t.kids.set n (c.put p s))
    | none => t
section
variable {K : PySem.W.Frag} {w : Wd} {σ : L2.St} {G G' H H' : Hp} {ρ ρ' : Env} {cl : Nat → ClsT}
theorem nodup_join {α : Type} {f1 f2 : List α} (h1 : f1.Nodup) (h2 : f2.Nodup) (h : ∀ b, b ∈ f1 → b ∉ f2) : (f1 ++ f2).Nodup := by
  rw [List.nodup_append]
  exact ⟨h1, h2, fun a ha b hb e => h a ha (e ▸ hb)⟩
/-- the place p within the tree t -/
structure Foc (K : PySem.W.Frag) (cl : Nat → ClsT) (H G : Hp) (t : OT) (v : V) (fp : List Addr) (p : List Nat) (s : OT) (u : V) (f : List Addr) : Prop where
  root : OAt K cl H G t v fp
  nd : fp.Nodup
  hat : t.at p = some s
  node : OAt K cl H G s u f
  sub : ∀ b ∈ f, b ∈ fp
  ndf : f.Nodup
  wand : ∀ (H' G' : Hp) (s' : OT) (f' : List Addr), Same G G' → (∀ b ∈ fp, b ∉ f → H' b = H b) → OAt K cl H' G' s' u f' → f'.Nodup → (∀ b ∈ f', b ∈ f ∨ b ∉ fp) →
    ∃ fp', OAt K cl H' G' (t.put p s') v fp' ∧ fp'.Nodup ∧ ∀ b ∈ fp', b ∈ f' ∨ (b ∈ fp ∧ b ∉ f)
theorem Foc.nil {t : OT} {v : V} {fp : List Addr} (h : OAt K cl H G t v fp) (nd : fp.Nodup) : Foc K cl H G t v fp [] t v fp :=
  ⟨h, nd, rfl, h, fun _ hb => hb, nd, fun H' G' s' f' _ _ q nd' _ => ⟨f', q, nd', fun b hb => .inl hb⟩⟩
theorem Foc.move {t s : OT} {v u : V} {fp f : List Addr} {p : List Nat} (F : Foc K cl H G t v fp p s u f) (g : Same G G') (e : ∀ b ∈ fp, H' b = H b) : Foc K cl H' G' t v fp p s u f :=
  ⟨F.root.move g e, F.nd, F.hat, F.node.move g fun b hb => e b (F.sub b hb), F.sub, F.ndf, fun H2 G2 s' f' g2 keep q nd new => F.wand H2 G2 s' f' (g.trans g2) (fun b hb hn => (keep b hb hn).trans (e b hb)) q nd new⟩
/-- what a node's heap object is, by the values of its children -/
def nodeObj (cl : Nat → ClsT) (s : OT) (vs : List V) (o : HO) : Prop := match s with
  | .sh _ => False
  | .lst _ => o = .lst vs
  | .dic ks xs => o = .dK (ks.zip vs) ∧ ks.length = xs.length
  | .obj c xs => xs.length = (cl c).names.length ∧ ∃ dx, o = .ins (cl c).addr dx ((cl c).names.zip vs)
theorem OAt.open {s : OT} {u : V} {f : List Addr} (h : OAt K cl H G s u f) (hn : ∀ d, s ≠ .sh d) : ∃ a vs fs o, u = .ref a ∧ H a = some o ∧ nodeObj cl s vs o ∧ f = a :: fs ∧ OAts K cl H G s.kids vs fs := by
  cases s with
  | sh d => exact absurd rfl (hn d)
  | lst xs =>
    simp only [OAt] at h
    obtain ⟨a, vs, fs, h1, h2, h3, h4⟩ := h
    exact ⟨a, vs, fs, _, h1, h2, rfl, h3, h4⟩
  | dic ks xs =>
    simp only [OAt] at h
    obtain ⟨a, vs, fs, h1, h2, h0, h3, h4⟩ := h
    exact ⟨a, vs, fs, _, h1, h2, ⟨rfl, h0⟩, h3, h4⟩
  | obj c xs =>
    simp only [OAt] at h
    obtain ⟨a, dx, vs, fs, h1, h2, h0, h3, h4⟩ := h
    exact ⟨a, vs, fs, _, h1, h2, ⟨h0, dx, rfl⟩, h3, h4⟩
/-- the node at the place is changed -/
theorem Rep.foc (r : Rep K w σ H G ρ) {fp : Nat → List Addr} (q : TreW K w σ H G ρ fp) {i : Nat} {k : Bool} {t s s' : OT} {v u : V} {p : List Nat} {f f' : List Addr} (hi : ρ[i]? = some (.tre k t)) (hv : σ[i]? = some (some v))
    (F : Foc K w.cl H G t v (fp i) p s u f) (h' : OAt K w.cl H' G s' u f') (nd' : f'.Nodup) (new : ∀ b ∈ f', b ∈ f ∨ (G b = none ∧ Free w σ ρ fp b)) (keep : ∀ b o, H b = some o → b ∉ f → H' b = some o) :
    ∃ fp2, Rep K w σ H' G (ρ.set i (.tre k (t.put p s'))) ∧ TreW K w σ H' G (ρ.set i (.tre k (t.put p s'))) fp2 ∧ (∀ j, j ≠ i → fp2 j = fp j) ∧ ∀ b ∈ fp2 i, b ∈ f' ∨ (b ∈ fp i ∧ b ∉ f) := by
  obtain ⟨v', e1, e2, e3, e4, e5⟩ := q i k t hi
  rw [hv] at e1
  cases e1
  have keep' : ∀ b ∈ fp i, b ∉ f → H' b = H b := fun b hb hn => by
    cases z : H b with
    | none => exact absurd z (e2.at b hb)
    | some o => exact keep b o z hn
  obtain ⟨fp', m1, m2, m3⟩ := F.wand H' G s' f' (Same.refl _) keep' h' nd' fun b hb => (new b hb).imp id fun z y => z.2.2.2 i k t hi y
  have sub : Same G H' := fun b o hb => keep b o (r.base.sub _ _ hb) fun z => by
    rw [(e5 b (F.sub b z)).1] at hb
    cases hb
  have new' : ∀ b ∈ fp', G b = none ∧ (b ∈ fp i ∨ Free w σ ρ fp b) := fun b hb => by
    rcases m3 b hb with y | y
    · rcases new b y with x | x
      · exact ⟨(e5 b (F.sub b x)).1, .inl (F.sub b x)⟩
      · exact ⟨x.1, .inr x.2⟩
    · exact ⟨(e5 b y.1).1, .inl y.1⟩
  obtain ⟨r', q'⟩ := r.updT q hi hv m1 m2 new' (Same.refl _) sub (fun b o hb hn => keep b o hb fun z => hn (F.sub b z)) (fun b hb => .inl hb)
  refine ⟨_, r', q', fun j hj => if_neg hj, fun b hb => m3 b ?_⟩
  have hb : b ∈ if i = i then fp' else fp i := hb
  rwa [if_pos rfl] at hb
end
end Fw
namespace Fw
open PySem PySem.Spec PyProof.Rows L2
section
variable {K : PySem.W.Frag} {w : Wd} {σ : L2.St} {G G' H H' : Hp} {ρ ρ' : Env} {cl : Nat → ClsT}
/-- u stands at the place p of the tree i -/
def PlAt (K : PySem.W.Frag) (w : Wd) (σ : L2.St) (H G : Hp) (ρ : Env) (i : Nat) (p : List Nat) (s : OT) (u : V) : Prop :=
  ∃ fp k t v f, TreW K w σ H G ρ fp ∧ ρ[i]? = some (.tre k t) ∧ σ[i]? = some (some v) ∧ Foc K w.cl H G t v (fp i) p s u f
theorem PlAt.go {i : Nat} {p : List Nat} {s : OT} {u : V} (h : PlAt K w σ H G ρ i p s u) (g : Grow H G H' G') : PlAt K w σ H' G' ρ i p s u := by
  obtain ⟨fp, k, t, v, f, h1, h2, h3, h4⟩ := h
  obtain ⟨v', e1, e2, e3, e4, e5⟩ := h1 i k t h2
  exact ⟨fp, k, t, v, f, h1.go g, h2, h3, h4.move g.gg fun b hb => (g.keep (e2.at b hb) (e5 b hb).1).1⟩
abbrev Pl := Nat × List Nat
abbrev Lf := Env → Option Pl
end
end Fw
namespace Fw
open PySem PySem.Spec PyProof.Rows L2
section
variable {X : Cx} {w : Wd} {e ea eb eo ek o : Expr} {f g : Ef} {l : Lf} {pos pos' p apos cpos : Pos} {x fn : Str} {i j c : Nat} {names : List Str}
theorem PlAt.node {K : PySem.W.Frag} {σ : L2.St} {H G : Hp} {ρ : Env} {q : List Nat} {s : OT} {u : V} (h : PlAt K w σ H G ρ i q s u) : ∃ f, OAt K w.cl H G s u f := by
  obtain ⟨fp, k, t, v, f, h1, h2, h3, h4⟩ := h
  exact ⟨f, h4.node⟩
theorem TreW.uniq {K : PySem.W.Frag} {σ : L2.St} {H G : Hp} {ρ : Env} {fp fp' : Nat → List Addr} (q : TreW K w σ H G ρ fp) (q' : TreW K w σ H G ρ fp') {i : Nat} {k : Bool} {t : OT} (hi : ρ[i]? = some (.tre k t)) : fp' i = fp i := by
  obtain ⟨v, e1, e2, _⟩ := q i k t hi
  obtain ⟨v', e1', e2', _⟩ := q' i k t hi
  rw [e1] at e1'
  cases e1'
  exact e2.uniq (Same.refl _) e2'
theorem Free.of {K : PySem.W.Frag} {σ : L2.St} {H G : Hp} {ρ : Env} {fp fp' : Nat → List Addr} {b : Addr} (h : Free w σ ρ fp b) (q : TreW K w σ H G ρ fp) (q' : TreW K w σ H G ρ fp') : Free w σ ρ fp' b :=
  ⟨h.1, h.2.1, fun m k t hm => by
    rw [q.uniq q' hm]
    exact h.2.2 m k t hm⟩
theorem PlAt.frame {K : PySem.W.Frag} {σ : L2.St} {H G H' G' : Hp} {ρ ρ' : Env} {fp fp' : Nat → List Addr} {q : List Nat} {s : OT} {u : V} (h : PlAt K w σ H G ρ i q s u) (tw : TreW K w σ H G ρ fp) (tw' : TreW K w σ H' G' ρ' fp') (e : ρ'[i]? = ρ[i]?) (g : Same G G')
    (keep : ∀ b ∈ fp i, H' b = H b) (hfp : fp' i = fp i) : PlAt K w σ H' G' ρ' i q s u := by
  obtain ⟨fp0, k, t, v, f, h1, h2, h3, h4⟩ := h
  have e0 := h1.uniq tw h2
  refine ⟨fp', k, t, v, f, tw', e.trans h2, h3, ?_⟩
  rw [hfp, e0]
  exact h4.move g fun b hb => keep b (e0 ▸ hb)
/-- the places of the variables but ts stay -/
def Kept (K : PySem.W.Frag) (w : Wd) (σ : L2.St) (ts : List Nat) (H G : Hp) (ρ : Env) (H' G' : Hp) (ρ' : Env) : Prop :=
  ∀ (i : Nat) (p : List Nat) (s : OT) (u : V), i ∉ ts → PlAt K w σ H G ρ i p s u → PlAt K w σ H' G' ρ' i p s u
theorem Kept.go {K : PySem.W.Frag} {σ : L2.St} {H G H' G' : Hp} {ρ : Env} {ts : List Nat} (g : Grow H G H' G') : Kept K w σ ts H G ρ H' G' ρ := fun i p s u _ h => h.go g
theorem Kept.trans {K : PySem.W.Frag} {σ : L2.St} {H G H1 G1 H2 G2 : Hp} {ρ ρ1 ρ2 : Env} {ts ts' : List Nat} (a : Kept K w σ ts H G ρ H1 G1 ρ1) (b : Kept K w σ ts' H1 G1 ρ1 H2 G2 ρ2) : Kept K w σ (ts ++ ts') H G ρ H2 G2 ρ2 :=
  fun i p s u hi h => b i p s u (fun z => hi (List.mem_append_right _ z)) (a i p s u (fun z => hi (List.mem_append_left _ z)) h)
abbrev Xf := Env → Option (OT × Env)
/-- v is the tree t, nobody's -/
def Got (K : PySem.W.Frag) (w : Wd) (σ : L2.St) (H G : Hp) (ρ : Env) (t : OT) (v : V) : Prop :=
  ∃ fp fv, TreW K w σ H G ρ fp ∧ OAt K w.cl H G t v fv ∧ fv.Nodup ∧ ∀ b ∈ fv, G b = none ∧ Free w σ ρ fp b
theorem Got.go {K : PySem.W.Frag} {σ : L2.St} {H G H' G' : Hp} {ρ : Env} {t : OT} {v : V} (h : Got K w σ H G ρ t v) (g : Grow H G H' G') : Got K w σ H' G' ρ t v := by
  obtain ⟨fp, fv, h1, h2, h3, h4⟩ := h
  exact ⟨fp, fv, h1.go g, h2.move g.gg fun b hb => (g.keep (h2.at b hb) (h4 b hb).1).1, h3, fun b hb => ⟨(g.keep (h2.at b hb) (h4 b hb).1).2, (h4 b hb).2⟩⟩
theorem Got.fresh {K : PySem.W.Frag} {σ : L2.St} {H G H' G' : Hp} {ρ : Env} {ow : Ow} {a : Addr} {ho : HO} (r : Rep K w σ H G ρ) (g : Grow H G H' G') (h0 : H a = none) (h1 : H' a = some ho) (h2 : G' a = none) (h3 : OwOk K w.cl G' ow ho) (hn : ∀ c ds, ow ≠ .obj c ds) : Got K w σ H' G' ρ ow.toT (.ref a) := by
  obtain ⟨fp, tw⟩ := r.trees
  refine ⟨fp, [a], tw.go g, h3.oat h1 hn, by simp, fun b hb => ?_⟩
  rw [List.mem_singleton.mp hb]
  exact ⟨h2, r.free tw h0⟩
theorem Got.set {K : PySem.W.Frag} {σ : L2.St} {H G : Hp} {ρ : Env} {t : OT} {v : V} (h : Got K w σ H G ρ t v) (r : Rep K w σ H G ρ) (i : Nat) : Rep K w (σ.set i (some v)) H G (ρ.set i (.tre false t)) := by
  obtain ⟨fp, fv, h1, h2, h3, h4⟩ := h
  exact r.setT h1 i h2 h3 fun b hb => ⟨(h4 b hb).1, (h4 b hb).2.1, fun j o _ => (h4 b hb).2.2.1 j o, fun m k t _ => (h4 b hb).2.2.2 m k t⟩
theorem Got.den {K : PySem.W.Frag} {σ : L2.St} {H G : Hp} {ρ : Env} {t : OT} {v : V} (h : Got K w σ H G ρ t v) (r : Rep K w σ H G ρ) : ∃ G', Same G G' ∧ Rep K w σ H G' ρ ∧ Den K w.cl G' t.toD v ∧ Kept K w σ [] H G ρ H G' ρ := by
  obtain ⟨fp, fv, h1, h2, h3, h4⟩ := h
  have hs : Same G (lay G H fv) := lay_same fun b hb => (h4 b hb).1
  obtain ⟨r1, tw1⟩ := r.swap h1 (G' := lay G H fv) (H' := H) (fun _ => False) ρ rfl (fun _ _ => rfl) (fun _ z => z.elim) hs (lay_sub r.base.sub) (fun b o hb _ _ => hb) (fun b hb => by
    by_cases hm : b ∈ fv
    · exact .inr (.inr (h4 b hm).2)
    · rw [lay_out hm] at hb
      exact .inl hb) fp (fun _ _ => rfl) (fun _ z => z.elim)
  exact ⟨_, hs, r1, h2.den hs (fun b hb => lay_in hb), fun i p s u _ h => h.frame h1 tw1 rfl hs (fun _ _ => rfl) rfl⟩
theorem Got.sh {K : PySem.W.Frag} {σ : L2.St} {H G : Hp} {ρ : Env} {d : D} {v : V} (h : Got K w σ H G ρ (.sh d) v) : Den K w.cl G d v := by
  obtain ⟨fp, fv, h1, h2, h3, h4⟩ := h
  simp only [OAt] at h2
  exact h2.2
end
end Fw
namespace Fw
open PySem PySem.Spec PyProof.Rows L2
/-- the node at the place is s -/
def putAt (ρ : Env) (l : Pl) (s : OT) : Env := match cellAt ρ l.1 with
  | .tre k t => ρ.set l.1 (.tre k (t.put l.2 s))
  | _ => ρ
section
variable {K : PySem.W.Frag} {w : Wd} {σ : L2.St} {G G' H H' : Hp} {ρ ρ' : Env} {i : Nat} {p : List Nat} {s s' : OT} {u : V}
theorem cellAt_of : ∀ {ρ : Env} {i : Nat} {c : Cell}, ρ[i]? = some c → cellAt ρ i = c
  | [], _, _, h => by simp at h
  | c :: _, 0, _, h => by
    simpa [cellAt] using h
  | _ :: r, i + 1, c, h => by
    rw [cellAt]
    exact cellAt_of (by simpa using h)
theorem putAt_eq {k : Bool} {t : OT} (h : ρ[i]? = some (.tre k t)) : putAt ρ (i, p) s = ρ.set i (.tre k (t.put p s)) := by
  unfold putAt
  dsimp only
  rw [cellAt_of h]
theorem PlAt.change (h : PlAt K w σ H G ρ i p s u) (r : Rep K w σ H G ρ) (hs : ∀ d, s ≠ .sh d) :
    ∃ a vs o fs fp, u = .ref a ∧ H a = some o ∧ nodeObj w.cl s vs o ∧ OAts K w.cl H G s.kids vs fs ∧ (a :: fs).Nodup ∧ TreW K w σ H G ρ fp ∧ (∀ b ∈ a :: fs, G b = none) ∧
      ∀ (o' : HO) (s' : OT) (fs' : List Addr), OAt K w.cl (upd H a o') G s' (.ref a) (a :: fs') → (a :: fs').Nodup → (∀ b ∈ fs', b ∈ fs ∨ (G b = none ∧ Free w σ ρ fp b)) →
        ∃ fp2, Rep K w σ (upd H a o') G (putAt ρ (i, p) s') ∧ TreW K w σ (upd H a o') G (putAt ρ (i, p) s') fp2 ∧ (∀ b ∈ fs, b ∉ fs' → Free w σ (putAt ρ (i, p) s') fp2 b) ∧ Kept K w σ [i] H G ρ (upd H a o') G (putAt ρ (i, p) s') := by
  obtain ⟨fp, k, t, v, f, h1, h2, h3, h4⟩ := h
  obtain ⟨a, vs, fs, o, rfl, e2, e3, rfl, e4⟩ := h4.node.open hs
  obtain ⟨v', q1, q2, q3, q4, q5⟩ := h1 i k t h2
  rw [h3] at q1
  cases q1
  refine ⟨a, vs, o, fs, fp, rfl, e2, e3, e4, h4.ndf, h1, fun b hb => (q5 b (h4.sub b hb)).1, fun o' s' fs' z1 z2 z3 => ?_⟩
  obtain ⟨fp2, m1, m2, m3, m4⟩ := r.foc h1 h2 h3 h4 z1 z2 (fun b hb => by
    rcases List.mem_cons.mp hb with rfl | hb
    · exact .inl (List.mem_cons_self ..)
    · exact (z3 b hb).imp (List.mem_cons_of_mem _) id) (fun b x hb hn => by
    have hba : b ≠ a := fun z => hn (by rw [z]; exact List.mem_cons_self ..)
    rw [upd_ne hba]
    exact hb)
  rw [putAt_eq h2]
  refine ⟨fp2, m1, m2, fun b hb hn => ?_, fun j pp ss uu hj hp => ?_⟩
  · have hbf : b ∈ a :: fs := List.mem_cons_of_mem _ hb
    obtain ⟨k1, k2, k3, k4⟩ := q5 b (h4.sub b hbf)
    refine ⟨k2, fun j o hj => ?_, fun m k' t' hm hb' => ?_⟩
    · by_cases e : j = i
      · subst e
        cases (getset_self hj).1
      · rw [getset_ne e] at hj
        exact k3 j o hj
    · by_cases e : m = i
      · subst e
        rcases m4 b hb' with y | y
        · rcases List.mem_cons.mp y with rfl | y
          · exact (List.nodup_cons.mp h4.ndf).1 hb
          · exact hn y
        · exact y.2 hbf
      · rw [m3 m e] at hb'
        rw [getset_ne e] at hm
        exact e (k4 m k' t' hm hb')
  · have hji : j ≠ i := fun z => hj (List.mem_singleton.mpr z)
    refine hp.frame h1 m2 (getset_ne hji) (Same.refl _) (fun b hb => upd_ne fun z => ?_) (m3 j hji)
    subst z
    obtain ⟨fp0, k0, t0, v0, f0, y1, y2, y3, y4⟩ := hp
    exact hji ((q5 b (h4.sub b (List.mem_cons_self ..))).2.2.2 j k0 t0 y2 hb)
theorem OAts.append : ∀ {ts us : List OT} {vs ws : List V} {f1 f2 : List Addr} {cl : Nat → ClsT}, OAts K cl H G ts vs f1 → OAts K cl H G us ws f2 → OAts K cl H G (ts ++ us) (vs ++ ws) (f1 ++ f2)
  | [], us, vs, ws, f1, f2, cl, h, h' => by
    simp only [OAts] at h
    rw [h.1, h.2]
    exact h'
  | t :: ts, us, vs, ws, f1, f2, cl, h, h' => by
    simp only [OAts] at h
    obtain ⟨v, r, g1, g2, rfl, rfl, k1, k2⟩ := h
    rw [List.cons_append, List.cons_append, List.append_assoc]
    simp only [OAts]
    exact ⟨v, _, g1, g2 ++ f2, rfl, rfl, k1, OAts.append k2 h'⟩
theorem OAts.one {t : OT} {v : V} {f : List Addr} {cl : Nat → ClsT} (h : OAt K cl H G t v f) : OAts K cl H G [t] [v] f := by
  simp only [OAts]
  exact ⟨v, [], f, [], rfl, (List.append_nil f).symm, h, rfl, rfl⟩
theorem OAts.upd {ts : List OT} {vs : List V} {f : List Addr} {cl : Nat → ClsT} {a : Addr} {o : HO} (h : OAts K cl H G ts vs f) (hn : a ∉ f) : OAts K cl (upd H a o) G ts vs f := h.move (Same.refl _) fun b hb => upd_ne fun z => hn (z ▸ hb)
theorem OAt.upd {t : OT} {v : V} {f : List Addr} {cl : Nat → ClsT} {a : Addr} {o : HO} (h : OAt K cl H G t v f) (hn : a ∉ f) : OAt K cl (upd H a o) G t v f := h.move (Same.refl _) fun b hb => upd_ne fun z => hn (z ▸ hb)
/-- an item more -/
theorem PlAt.append {xs : List OT} (h : PlAt K w σ H G ρ i p (.lst xs) u) (r : Rep K w σ H G ρ) {t : OT} {v : V} (g : Got K w σ H G ρ t v) :
    ∃ a vs, u = .ref a ∧ H a = some (.lst vs) ∧ vs.length = xs.length ∧ Rep K w σ (upd H a (.lst (vs ++ [v]))) G (putAt ρ (i, p) (.lst (xs ++ [t]))) ∧ Kept K w σ [i] H G ρ (upd H a (.lst (vs ++ [v]))) G (putAt ρ (i, p) (.lst (xs ++ [t]))) := by
  obtain ⟨a, vs, o, fs, fp, rfl, h2, h3, h4, h5, h6, h7, h8⟩ := h.change r fun _ z => nomatch z
  cases h3
  obtain ⟨fp', fv, g1, g2, g3, g4⟩ := g
  have fr : ∀ b ∈ fv, Free w σ ρ fp b := fun b hb => (g4 b hb).2.of g1 h6
  obtain ⟨fp0, k, t0, v0, f0, y1, y2, y3, y4⟩ := h
  have inT : ∀ b, b ∈ a :: fs → b ∉ fv := fun b hb hb' => by
    have e0 := y1.uniq h6 y2
    obtain ⟨aa, vv, ff, oo, z1, z2, z3, z4, z5⟩ := y4.node.open fun _ z => nomatch z
    cases z1
    rw [h2] at z2
    cases z2
    cases z3
    have hff := OAts.uniq (Same.refl _) h4 z5
    have := (fr b hb').2.2 i k t0 y2
    rw [e0] at this
    exact this (y4.sub b (by rw [z4, hff]; exact hb))
  have nd := List.nodup_cons.mp h5
  have na : a ∉ fv := inT a (List.mem_cons_self ..)
  have hfs : (fs ++ fv).Nodup := nodup_join nd.2 g3 fun b hb => inT b (List.mem_cons_of_mem _ hb)
  obtain ⟨fp2, m1, m2, _, m4⟩ := h8 (.lst (vs ++ [v])) (.lst (xs ++ [t])) (fs ++ fv) (by
    simp only [OAt]
    exact ⟨a, vs ++ [v], fs ++ fv, rfl, upd_same, rfl, (h4.upd nd.1).append (OAts.one (g2.upd na))⟩) (List.nodup_cons.mpr ⟨fun z => (List.mem_append.mp z).elim nd.1 na, hfs⟩) (fun b hb => (List.mem_append.mp hb).imp id fun z => ⟨(g4 b z).1, fr b z⟩)
  exact ⟨a, vs, rfl, h2, h4.length, m1, m4⟩
end
end Fw
namespace Fw
open PySem PySem.Spec PyProof.Rows L2
end Fw
namespace Fw
open PySem PySem.Spec PyProof.Rows L2
def dels (H : Hp) (L : List Addr) : Hp := fun b => if b ∈ L then none else H b
/-- the cells at the start, and what they hold -/
structure StartOk (K : PySem.W.Frag) (cl : Nat → ClsT) (H G : Hp) (cs : List Cell) (vs : List V) (fp : Nat → List Addr) : Prop where
  len : vs.length = cs.length
  sh : ∀ (i : Nat) (d : D), cs[i]? = some (.sh d) → ∃ v, vs[i]? = some v ∧ Den K cl G d v
  tre : ∀ (i : Nat) (k : Bool) (t : OT), cs[i]? = some (.tre k t) → k = true ∧ ∃ a, vs[i]? = some (.ref a) ∧ OAt K cl H G t (.ref a) (fp i) ∧ (fp i).Nodup ∧
    ∀ b ∈ fp i, G b = none ∧ ∀ (j : Nat) (k' : Bool) (t' : OT), cs[j]? = some (.tre k' t') → b ∈ fp j → j = i
  own : ∀ (i : Nat) (o : Ow), cs[i]? ≠ some (.own o)
  xc : ∀ i : Nat, cs[i]? ≠ some .xc
/-- a def's promise: the value, and the trees that it was passed -/
def spX (K : PySem.W.Frag) (cl : Nat → ClsT) (np : Nat) (R : List Cell → Option (D × Env)) : Sp := fun vs H Q _ => ∃ (G : Hp) (cs : List Cell) (fp : Nat → List Addr) (L : List Addr), Same G H ∧ StartOk K cl H G cs vs fp ∧ cs.length = np ∧ (∀ b, b ∈ L ↔ ∃ i k t, cs[i]? = some (.tre k t) ∧ b ∈ fp i) ∧
  ∃ d ρ, R cs = some (d, ρ) ∧ ∀ (v : V) (H' G' : Hp) (fp' : Nat → List Addr), Grow (dels H L) G H' G' → Den K cl G' d v →
    (∀ (i : Nat) (k : Bool) (t : OT), cs[i]? = some (.tre k t) → ∀ (t' : OT), ρ[i]? = some (.tre true t') → ∀ (u : V), vs[i]? = some u → OAt K cl H' G' t' u (fp' i) ∧ (fp' i).Nodup ∧
      ∀ b ∈ fp' i, G' b = none ∧ dels H L b = none ∧ ∀ (j : Nat) (k' : Bool) (t' : OT), ρ[j]? = some (.tre k' t') → b ∈ fp' j → j = i) → Q v H'
structure DefX (P : Program) (wd : World) (K : PySem.W.Frag) (mg : Str → Option Value) (base : Heap) (cl : Nat → ClsT) (k : Nat) (x : Str) (np : Nat) (R : List Cell → Option (D × Env)) : Prop where
  ex : ∃ (f : Addr) (fd : FuncData) (ps : List Str), mg x = some (.ref f) ∧ PySem.W.keepIn K (.ref f) = true ∧ Binds K fd ps [] ∧ FnOk P wd K mg base CX0 k f fd ps (spX K cl np R)
theorem DefX.mono {P : Program} {wd : World} {K : PySem.W.Frag} {mg : Str → Option Value} {base : Heap} {cl : Nat → ClsT} {j k : Nat} {x : Str} {np : Nat} {R : List Cell → Option (D × Env)} (d : DefX P wd K mg base cl j x np R) (h : j ≤ k) : DefX P wd K mg base cl k x np R :=
  let ⟨f, fd, ps, a, b, c, o⟩ := d.ex
  ⟨f, fd, ps, a, b, c, o.mono h⟩
inductive AK where
  | val (d : D) | io (i : Nat) | nw (t : OT)
def AOk (K : PySem.W.Frag) (w : Wd) (σ : L2.St) (H G : Hp) (ρ : Env) : List AK → List V → Prop
  | [], vs => vs = []
  | .val d :: r, vs => ∃ v us, vs = v :: us ∧ Den K w.cl G d v ∧ AOk K w σ H G ρ r us
  | .io i :: r, vs => ∃ v us, vs = v :: us ∧ σ[i]? = some (some v) ∧ AOk K w σ H G ρ r us
  | .nw t :: r, vs => ∃ v us, vs = v :: us ∧ Got K w σ H G ρ t v ∧ AOk K w σ H G ρ r us
abbrev Kf := Env → Option (List AK)
section
variable {X : Cx} {w : Wd} {e : Expr} {es : List Expr} {f : Ef} {r : Kf} {i : Nat} {pos p : Pos} {x : Str}
theorem AOk.get {K : PySem.W.Frag} {σ : L2.St} {H G : Hp} {ρ : Env} : ∀ {ks : List AK} {vs : List V}, AOk K w σ H G ρ ks vs → vs.length = ks.length ∧ ∀ p : Nat, (∀ d : D, ks[p]? = some (.val d) → ∃ v, vs[p]? = some v ∧ Den K w.cl G d v) ∧ (∀ i : Nat, ks[p]? = some (.io i) → ∃ v, vs[p]? = some v ∧ σ[i]? = some (some v)) ∧ (∀ t : OT, ks[p]? = some (.nw t) → ∃ v, vs[p]? = some v ∧ Got K w σ H G ρ t v)
  | [], _, h => by
    cases h
    exact ⟨rfl, fun p => ⟨fun d h => by simp at h, fun i h => by simp at h, fun t h => by simp at h⟩⟩
  | .val d :: r, _, ⟨v, us, rfl, h1, h2⟩ => by
    obtain ⟨k1, k2⟩ := AOk.get h2
    refine ⟨by rw [List.length_cons, List.length_cons, k1], fun p => ?_⟩
    cases p with
    | zero =>
      refine ⟨fun d' h => ?_, fun i h => by simp at h, fun t h => by simp at h⟩
      cases (show some (AK.val d) = some (.val d') from by simpa using h)
      exact ⟨v, rfl, h1⟩
    | succ p => exact ⟨fun d' h => by simpa using (k2 p).1 d' (by simpa using h), fun i h => by simpa using (k2 p).2.1 i (by simpa using h), fun t h => by simpa using (k2 p).2.2 t (by simpa using h)⟩
  | .nw t0 :: r, _, ⟨v, us, rfl, h1, h2⟩ => by
    obtain ⟨k1, k2⟩ := AOk.get h2
    refine ⟨by rw [List.length_cons, List.length_cons, k1], fun p => ?_⟩
    cases p with
    | zero =>
      refine ⟨fun d' h => by simp at h, fun i h => by simp at h, fun t h => ?_⟩
      cases (show some (AK.nw t0) = some (.nw t) from by simpa using h)
      exact ⟨v, rfl, h1⟩
    | succ p => exact ⟨fun d' h => by simpa using (k2 p).1 d' (by simpa using h), fun i h => by simpa using (k2 p).2.1 i (by simpa using h), fun t h => by simpa using (k2 p).2.2 t (by simpa using h)⟩
  | .io j :: r, _, ⟨v, us, rfl, h1, h2⟩ => by
    obtain ⟨k1, k2⟩ := AOk.get h2
    refine ⟨by rw [List.length_cons, List.length_cons, k1], fun p => ?_⟩
    cases p with
    | zero =>
      refine ⟨fun d' h => by simp at h, fun i h => ?_, fun t h => by simp at h⟩
      cases (show some (AK.io j) = some (.io i) from by simpa using h)
      exact ⟨v, rfl, h1⟩
    | succ p => exact ⟨fun d' h => by simpa using (k2 p).1 d' (by simpa using h), fun i h => by simpa using (k2 p).2.1 i (by simpa using h), fun t h => by simpa using (k2 p).2.2 t (by simpa using h)⟩
end
end Fw
namespace Fw
open PySem PySem.Spec PyProof.Rows L2
section
variable {X : Cx} {w : Wd} {e ea eb : Expr} {f g : Xf} {pos p : Pos} {x : Str} {ts ts' : List Nat} {id : String}
theorem Kept.sub {K : PySem.W.Frag} {σ : L2.St} {H G H' G' : Hp} {ρ ρ' : Env} (h : Kept K w σ ts H G ρ H' G' ρ') (hs : ∀ i, i ∈ ts → i ∈ ts') : Kept K w σ ts' H G ρ H' G' ρ' := fun i p s u hi hp => h i p s u (fun z => hi (hs i z)) hp
end
end Fw
namespace Fw
open PySem PySem.Spec PyProof.Rows L2
end Fw
namespace Fw
open PySem PySem.Spec PyProof.Rows L2 RT
end Fw
namespace Fw
open PySem PySem.Spec PyProof.Rows L2
/-- what an __init__ does that keeps its one argument -/
def spInit (K : PySem.W.Frag) (f : Str) : Sp := fun xs H Q _ => ∃ (a C : Addr) (v : V), xs = [.ref a, v] ∧ OexC K C ∧ PySem.W.findIn K (.ref C) f = some none ∧ H a = some (exo a C none) ∧ ∀ d, H d = none → d ≠ a → Q .non (upd (upd H d (exd d [(f, v)])) a (exo a C (some d)))
/-- class c stands under the name x; its exceptions have the one field f -/
structure ExcK (P : Program) (wd : World) (K : PySem.W.Frag) (mg : Str → Option Value) (base : Heap) (cl : Nat → ClsT) (c : Nat) (x f : Str) : Prop where
  ex : ∃ (fI : Addr) (fd : FuncData), (cl c).names = [f] ∧ OexC K (cl c).addr ∧ PySem.W.findIn K (.ref (cl c).addr) f = some none ∧ PySem.W.findIn K (.ref (cl c).addr) "__init__" = some (some (.ref fI)) ∧ PySem.W.typeIn K (.ref fI) = some (.type "function") ∧
    Binds K fd ["self", f] [] ∧ Fw.FnOk P wd K mg base CX0 1 fI fd ["self", f] (spInit K f) ∧ mg x = some (.ref (cl c).addr)
inductive RetE where
  | r (x : Ret) | ex (c : Nat) (ds : List D)
def retPE (K : PySem.W.Frag) (cl : Nat → ClsT) (G H : Hp) (Q : VK) (E : XK) : RetE → Prop
  | .r x => retP K cl G H Q x
  | .ex c ds => ∀ H' G' d, Grow H G H' G' → ExAt K cl H' G' c ds d → E (.ref (cl c).addr) d H'
def spE (K : PySem.W.Frag) (cl : Nat → ClsT) (np : Nat) (F : List D → RetE) : Sp := fun vs H Q E => ∃ G ds, Same G H ∧ Dens K cl G ds vs ∧ ds.length = np ∧ retPE K cl G H Q E (F ds)
section
variable {P : Program} {wd : World} {K : PySem.W.Frag} {mg : Str → Option Value} {base : Heap} {cl : Nat → ClsT} {x : Str} {st : Stmt} {N ps : List Str} {k : Nat}
structure DefE (P : Program) (wd : World) (K : PySem.W.Frag) (mg : Str → Option Value) (base : Heap) (cl : Nat → ClsT) (k : Nat) (x : Str) (np : Nat) (F : List D → RetE) : Prop where
  ex : ∃ (f : Addr) (fd : FuncData) (ps : List Str), mg x = some (.ref f) ∧ PySem.W.keepIn K (.ref f) = true ∧ Binds K fd ps [] ∧ FnOk P wd K mg base (L2N.CX P wd) k f fd ps (spE K cl np F)
theorem DefE.mono {j : Nat} {np : Nat} {F : List D → RetE} (d : DefE P wd K mg base cl j x np F) (h : j ≤ k) : DefE P wd K mg base cl k x np F :=
  let ⟨f, fd, ps, a, b, c, o⟩ := d.ex
  ⟨f, fd, ps, a, b, c, o.mono h⟩
end
/-- no cell but i bears an exception -/
def noX : Env → Bool
  | [] => true
  | .xc :: _ => false
  | _ :: r => noX r
theorem noX_ok : ∀ {ρ : Env}, noX ρ = true → ∀ j : Nat, ρ[j]? ≠ some .xc
  | [], _, j, h => by simp at h
  | c :: r, e, j, h => by
    cases c with
    | xc => cases e
    | no =>
      cases j with
      | zero => cases h
      | succ j => exact noX_ok (ρ := r) e j (by simpa using h)
    | sh d =>
      cases j with
      | zero => cases h
      | succ j => exact noX_ok (ρ := r) e j (by simpa using h)
    | own o =>
      cases j with
      | zero => cases h
      | succ j => exact noX_ok (ρ := r) e j (by simpa using h)
    | tre k t =>
      cases j with
      | zero => cases h
      | succ j => exact noX_ok (ρ := r) e j (by simpa using h)
def gX (b : Bool) (o : Out) : Out := if b = true then o else .stuck
theorem gX_post {K : PySem.W.Frag} {w : Wd} {G : Hp} {Ds : Ends} {b : Bool} {o : Out} (h : post K w G Ds (gX b o)) : b = true ∧ post K w G Ds o := by
  unfold gX at h
  cases b with
  | true => exact ⟨rfl, h⟩
  | false => exact h.elim
section
variable {K : PySem.W.Frag} {w w' : Wd} {σ : L2.St} {H G He Ge : Hp} {ρ : Env}
/-- down to the old world -/
theorem Rep.older (b : Base w He Ge) (s1 : Same w.H0 w'.H0) (h2 : w'.cl = w.cl) (h3 : w'.sf = w.sf) (h4 : w'.G0 = Ge) (hx : ∀ j : Nat, ρ[j]? ≠ some .xc) (r : Rep K w' σ H G ρ) : Rep K w σ H G ρ := by
  have low : ∀ b, w'.H0 b = none → w.H0 b = none := fun b hb => s1.free hb
  refine ⟨⟨s1.trans r.base.ext, fun x y e => r.base.gext x y (by rw [h4]; exact b.gext x y e), r.base.sub, fun x hx => ?_⟩, r.len, ?_, fun i o e => ?_, fun i c ds e => ?_, r.dis, ?_, fun j hj => absurd hj (hx j)⟩
  · rcases r.base.new x hx with z | z
    · rw [h4] at z
      exact b.new x z
    · exact .inr (low x z)
  · rw [← h2]
    exact r.sh
  · obtain ⟨a, ho, e1, e2, e3, e4, e5⟩ := r.own i o e
    exact ⟨a, ho, e1, e2, e3, low a e4, by rw [← h2]; exact e5⟩
  · rw [← h3]
    exact r.slf i c ds e
  · obtain ⟨fp, q⟩ := r.tre
    refine ⟨fp, fun i k t e => ?_⟩
    obtain ⟨v, k1, k2, k3, k4, k5⟩ := q i k t e
    refine ⟨v, k1, by rw [← h2]; exact k2, k3, fun z => by rw [← h3]; exact k4 z, fun b hb => ?_⟩
    obtain ⟨m1, m2, m3, m4⟩ := k5 b hb
    exact ⟨m1, low b m2, m3, m4⟩
end
end Fw
namespace Fw
open PySem PySem.Spec PyProof.Rows L2
section
variable {X : Cx} {w w' : Wd} {a : Addr} {oe : Obj} {c i : Nat} {es : List D} {d : Option Addr} {pn : List (Addr × Obj)} {n x f : Str} {p p2 pos : Pos}
structure DefH (P : Program) (wd : World) (K : PySem.W.Frag) (mg : Str → Option Value) (base : Heap) (cl : Nat → ClsT) (k : Nat) (x : Str) (np : Nat) (F : List D → Ret) : Prop where
  ex : ∃ (f : Addr) (fd : FuncData) (ps : List Str), mg x = some (.ref f) ∧ PySem.W.keepIn K (.ref f) = true ∧ Binds K fd ps [] ∧ L2H.FnH P wd K mg base CX0 k f fd ps (spF K cl np F)
end
end Fw
namespace Fw
open PySem PySem.Spec PyProof.Rows L2
theorem DefH.mono {P : Program} {wd : World} {K : PySem.W.Frag} {mg : Str → Option Value} {base : Heap} {cl : Nat → ClsT} {j k np : Nat} {x : Str} {F : List D → Ret} (d : DefH P wd K mg base cl j x np F) (h : j ≤ k) : DefH P wd K mg base cl k x np F :=
  let ⟨f, fd, ps, a, b, c, o⟩ := d.ex
  ⟨f, fd, ps, a, b, c, ⟨o.len, fun A outer s H args us vs Q E p hr => o.run A outer s H args us vs Q E p (hr.mono h)⟩⟩
structure ExcL (P : Program) (wd : World) (K : PySem.W.Frag) (mg : Str → Option Value) (base : Heap) (cl : Nat → ClsT) (k c : Nat) (x f : Str) : Prop where
  h : ExcK P wd K mg base cl c x f
  le : 2 ≤ k
section
variable {P : Program} {wd : World} {K : PySem.W.Frag} {mg : Str → Option Value} {base : Heap} {cl : Nat → ClsT} {X : Cx} {w : Wd} {e : Expr} {g : Ef} {x f qn : Str} {st : Stmt} {c k j : Nat} {p pos pos2 : Pos}
theorem ExcL.mono (h : ExcL P wd K mg base cl j c x f) (le : j ≤ k) : ExcL P wd K mg base cl k c x f := ⟨h.h, Nat.le_trans h.le le⟩
end
end Fw
namespace Fw
open PySem PySem.Spec PyProof.Rows L2
end Fw
namespace Fw
open PySem PySem.Spec PyProof.Rows L2
end Fw
namespace Fw
open PySem PySem.Spec PyProof.Rows L2
end Fw
namespace Fw
open PySem PySem.Spec PyProof.Rows L2
/-- the walk yields the data ds as long as what is there now stays -/
def WalkO (cl : Nat → ClsT) (K : PySem.W.Frag) (H G : Hp) (J : It) (ds : List D) : Prop := ∀ H2 G2, Same G G2 → Same G2 H2 → Same H H2 →
  (∀ (i : Nat) (d : D), ds[i]? = some d → J.go i H2 ∧ ∀ x H3, J.yld i H2 x H3 → ∃ G3, Grow H2 G2 H3 G3 ∧ Den K cl G3 d x) ∧ J.stop ds.length H2
end Fw
namespace Fw
open PySem PySem.Spec PyProof.Rows L2 RZ
end Fw
namespace Fw
open PySem PySem.Spec PyProof.Rows L2
end Fw
namespace Fw
open PySem PySem.Spec PyProof.Rows L2
end Fw
namespace Fw
open PySem PySem.Spec PyProof.Rows L2
end Fw
namespace Fw
open PySem PySem.Spec PyProof.Rows L2
end Fw
namespace Fw
open PySem PySem.Spec PyProof.Rows L2
end Fw
namespace Fw
open PySem PySem.Spec PyProof.Rows L2
end Fw
namespace Fw
open PySem PySem.Spec PyProof.Rows L2
def lV : Leaf → V
  | .none => .non
  | .num i => .int i
  | .text x => .str x
theorem lV_is {P : Program} {w : World} {k : Leaf} {u : Value} (r : RelV (lV k) u) : (leafKind P w).is k u = true := by
  cases k with
  | none =>
    have e : u = Value.none := r
    subst e
    rfl
  | num i =>
    obtain ⟨t, e⟩ := (show ∃ t, u = Value.int i t from r)
    subst e
    exact (by simp [leafKind, Leaf.isOf] : (leafKind P w).is (.num i) (.int i t) = true)
  | text x =>
    obtain ⟨t, e⟩ := (show ∃ t, u = Value.str x t from r)
    subst e
    exact (by simp [leafKind, Leaf.isOf, Value.isStrOf] : (leafKind P w).is (.text x) (.str x t) = true)
theorem leaves_are {P : Program} {w : World} : ∀ {ks : List Leaf} {us : List Value}, Vals (ks.map lV) us → ItemsAre (leafKind P w) ks us
  | [], _, r => by rw [List.map_nil] at r; cases r; exact .nil
  | k :: ks, _, r => by
    rw [List.map_cons] at r
    cases r with
    | cons h t => exact .cons (lV_is h) (leaves_are t)
abbrev KM (H : Hp) : List (List Leaf × V) → List (List Leaf × Addr × Value) → Prop := Paired fun p q => p.1 = q.1 ∧ H q.2.1 = some (.tup (p.1.map lV)) ∧ RelV p.2 q.2.2
theorem KM.val {H : Hp} {kvs : List (List Leaf × V)} {xs : List (List Leaf × Addr × Value)} (r : KM H kvs xs) (k : List Leaf) : RelO (valV kvs k) ((atKey xs k).map (·.2)) := by
  induction r with
  | nil => exact True.intro
  | @cons p q ps qs h t ih =>
    obtain ⟨h1, _, h2⟩ := h
    by_cases e : p.1 = k
    · have e' : q.1 = k := h1.symm.trans e
      have b : atKey (q :: qs) k = some q.2 := by simp [atKey, List.find?_cons, e']
      rw [valV_pos e, b]; exact h2
    · have e' : ¬ q.1 = k := fun z => e (h1.trans z)
      have b : atKey (q :: qs) k = atKey qs k := by simp [atKey, List.find?_cons, e']
      rw [valV_neg e, b]; exact ih
theorem KM.repl {H : Hp} {kvs : List (List Leaf × V)} {xs : List (List Leaf × Addr × Value)} (r : KM H kvs xs) (k : List Leaf) {y : V} {u : Value} (ry : RelV y u) :
    KM H (kvs.map fun kv => if kv.1 = k then (kv.1, y) else kv) (xs.map (PySem.putAt k u)) := by
  induction r with
  | nil => exact .nil
  | @cons p q ps qs h t ih =>
    rw [List.map_cons, List.map_cons]
    refine .cons ?_ ih
    obtain ⟨h1, h2, h3⟩ := h
    unfold PySem.putAt
    by_cases e : p.1 = k
    · rw [if_pos e, if_pos (h1.symm.trans e)]; exact ⟨h1, h2, ry⟩
    · rw [if_neg e, if_neg (fun z => e (h1.trans z))]; exact ⟨h1, h2, h3⟩
theorem KM.put {H : Hp} {kvs : List (List Leaf × V)} {xs : List (List Leaf × Addr × Value)} (r : KM H kvs xs) (k : List Leaf) {b : Addr} {y : V} {u : Value} (hb : H b = some (.tup (k.map lV))) (ry : RelV y u) :
    KM H (putK kvs k y) (storedH xs k b u) := by
  have e : (kvs.any fun kv => decide (kv.1 = k)) = (atKey xs k).isSome := by
    rw [valV_any, (r.val k).isSome_eq, Option.isSome_map]
  unfold putK storedH
  rw [e]
  by_cases q : (atKey xs k).isSome = true
  · rw [if_pos q, if_pos q]; exact KM.repl r k ry
  · rw [if_neg q, if_neg q]; exact Paired.snoc r ⟨rfl, hb, ry⟩
theorem KM.keeps {H H' : Hp} {kvs : List (List Leaf × V)} {xs : List (List Leaf × Addr × Value)} (r : KM H kvs xs) (ht : ∀ b ys, H b = some (.tup ys) → H' b = some (.tup ys)) : KM H' kvs xs :=
  Paired.mapP r fun _ _ z => ⟨z.1, ht _ _ z.2.1, z.2.2⟩
def MObj (P : Program) (w : World) (xs : List (List Leaf × Addr × Value)) (a : Addr) (h : Heap) : Prop :=
  ∃ o es ep, h.get? a = some o ∧ o.ExactDict ∧ o.data = .dict es ep ∧ es.toList = xs.map (entryOfKey (tupleKind (leafKind P w))) ∧ (xs.map (·.1)).Nodup
def MemoAt (P : Program) (w : World) (H : Hp) (a : Addr) (kvs : List (List Leaf × V)) : Prop :=
  kvs.length ≤ sizeLine ∧ (a == sysModules) = false ∧ ∃ xs, KM H kvs xs ∧ H a = some (.ext (MObj P w xs a))
theorem MObj.ok {P : Program} {w : World} {H : Hp} {h : Heap} {xs : List (List Leaf × Addr × Value)} {a : Addr} (m : MObj P w xs a h) : ObjOk P w H h a (.ext (MObj P w xs a)) := by
  refine ⟨m, ?_, fun h1 h2 m1 k => ?_⟩
  · obtain ⟨o, _, _, e, _⟩ := m
    exact ⟨o, e⟩
  · obtain ⟨o, es, ep, e, r⟩ := m1
    exact ⟨o, es, ep, k o e, r⟩
section
variable {P : Program} {w : World} {H : Hp} {h : Heap} {a : Addr}
theorem lkey_of {ks : List Leaf} (ok : HOk P w H h) (e : H a = some (.tup (ks.map lV))) : (tupleKind (leafKind P w)).is h ks a := by
  obtain ⟨_, its, r, o, h1, h2, n, h3⟩ := (show ObjOk P w H h a (.tup (ks.map lV)) from ok a _ e)
  exact ⟨o, its.toArray, n, h1, h2, h3, by simpa using leaves_are r⟩
theorem MemoAt.of {kvs : List (List Leaf × V)} (ok : HOk P w H h) (m : MemoAt P w H a kvs) : ∃ xs, KM H kvs xs ∧ h.DictOfH (tupleKind (leafKind P w)) a xs ∧ H a = some (.ext (MObj P w xs a)) := by
  obtain ⟨_, _, xs, r, e⟩ := m
  obtain ⟨⟨o, es, ep, h1, h2, h3, h4, h5⟩, _⟩ := (show ObjOk P w H h a (.ext (MObj P w xs a)) from ok a _ e)
  refine ⟨xs, r, ⟨o, es, ep, h1, h2, h3, h4, fun x hx => ?_, h5⟩, e⟩
  have all : ∀ {l : List (List Leaf × V)} {m : List (List Leaf × Addr × Value)}, KM H l m → ∀ x ∈ m, (tupleKind (leafKind P w)).is h x.1 x.2.1 := by
    intro l m q
    induction q with
    | nil => intro x hx; exact nomatch hx
    | @cons p q ps qs hq t ih =>
      intro x hx
      rcases List.mem_cons.mp hx with e | hx
      · subst e
        exact lkey_of ok (by rw [← hq.1]; exact hq.2.1)
      · exact ih x hx
  exact all r x hx
end
section
variable {X : Cx} {pins : List (Addr × Obj)} {σ : L2.St} {H : Hp} {s : Shared} {a b : Addr} {v : V} {r : Value} {k : List Leaf} {kvs : List (List Leaf × V)} {A : Around} {E : Value → Shared → Prop}
theorem m_getItem {Q : Value → Shared → Prop} (hu : A.units + 1 < cLine) (I : Inv X pins σ H s) (m : MemoAt X.prog X.w H a kvs) (eb : H b = some (.tup (k.map lV))) (l : valV kvs k = some v) (h : ∀ w' s', Inv X pins σ H s' → RelV v w' → Q w' s') :
    wpAny (model X.prog X.w) A (getItem (.ref a) (.ref b)) Q E s := by
  obtain ⟨xs, rel, dd, _⟩ := m.of I.hok
  obtain ⟨w', hw, rw'⟩ := RelO.some_of (v := v) (o := (atKey xs k).map (·.2)) (by rw [← l]; exact rel.val k)
  obtain ⟨p, hp, hp2⟩ := Option.map_eq_some_iff.mp hw
  refine wpAny_getItem_heap (tupleKind_room_in1 hu) (lkey_of I.hok eb) dd hp ?_
  rw [hp2]
  exact h w' _ (I.tok _) rw'
theorem m_notIn {Q : Value → Shared → Prop} (hu : A.units + 1 < cLine) (I : Inv X pins σ H s) (m : MemoAt X.prog X.w H a kvs) (eb : H b = some (.tup (k.map lV))) (h : ∀ s', Inv X pins σ H s' → Q (.bool (!(valV kvs k).isSome)) s') :
    wpAny (model X.prog X.w) A (compareOp .NotIn (.ref b) (.ref a)) Q E s := by
  obtain ⟨xs, rel, dd, _⟩ := m.of I.hok
  refine wpAny_notIn_heap (tupleKind_room_in1 hu) (lkey_of I.hok eb) m.2.1 dd ?_
  have q := (rel.val k).isSome_eq
  rw [Option.isSome_map] at q
  rw [← q]
  exact h _ (I.tok _)
theorem m_setItem {Q : Unit → Shared → Prop} (hu : A.units + 1 < cLine) (I : Inv X pins σ H s) (m : MemoAt X.prog X.w H a kvs) (eb : H b = some (.tup (k.map lV))) (hl : kvs.length < sizeLine) (rv : RelV v r)
    (h : ∀ φ s', MemoAt X.prog X.w (upd H a (.ext φ)) a (putK kvs k v) → Inv X pins σ (upd H a (.ext φ)) s' → Q () s') :
    wpAny (model X.prog X.w) A (setItem (.ref a) (.ref b) r) Q E s := by
  obtain ⟨xs, rel, dd, e⟩ := m.of I.hok
  have hz : xs.length ≤ sizeLine := by rw [← Paired.length rel]; exact m.1
  have hl2 : (putK kvs k v).length ≤ sizeLine := by have := length_putK kvs k v; omega
  refine wpAny_setItem_heap (hsz := hz) (tupleKind_room_in1 hu) (lkey_of I.hok eb) dd fun h' dd' hs => ?_
  obtain ⟨q, es, ep, hq, h2, h3, h4, _, h5⟩ := dd'
  have hM : MObj X.prog X.w (storedH xs k b r) a h' := ⟨q, es, ep, hq, h2, h3, h4, h5⟩
  refine h (MObj X.prog X.w (storedH xs k b r) a) _ ⟨hl2, m.2.1, _, (rel.put k eb rv).keeps fun c ys ec => ?_, upd_same⟩ (d_write I (by rw [e]; exact True.intro) hs ⟨q, hq⟩ hM.ok)
  rw [upd_ne (ne_of ec e (fun z => nomatch z))]
  exact ec
end
def tMGet (P : Program) (w : World) (td ty : TE) : TE := fun σ H Q => td σ H fun x H1 => ty σ H1 fun y H2 => ∃ a b k kvs v, x = .ref a ∧ y = .ref b ∧ MemoAt P w H2 a kvs ∧ H2 b = some (.tup (k.map lV)) ∧ valV kvs k = some v ∧ Q v H2
def tMNot (P : Program) (w : World) (ty td : TE) : TE := fun σ H Q => ty σ H fun y H1 => td σ H1 fun x H2 => ∃ a b k kvs, x = .ref a ∧ y = .ref b ∧ MemoAt P w H2 a kvs ∧ H2 b = some (.tup (k.map lV)) ∧ Q (.bl (!(valV kvs k).isSome)) H2
def sMPut (P : Program) (w : World) (td ty tv : TE) : TS := fun D σ H => tv σ H fun v H1 => td σ H1 fun x H2 => ty σ H2 fun y H3 => ∃ a b k kvs, x = .ref a ∧ y = .ref b ∧ MemoAt P w H3 a kvs ∧ H3 b = some (.tup (k.map lV)) ∧ kvs.length < sizeLine ∧
  ∀ φ, MemoAt P w (upd H3 a (.ext φ)) a (putK kvs k v) → D.nx σ (upd H3 a (.ext φ))
section
variable {X : Cx} {o i e value : Expr} {pos pos' tpos : Pos} {td ty tv : TE}
theorem pe_mget (hu : X.A.units + 1 < cLine) (ho : PE X o td) (hi : PE X i ty) (hs : NoSl i) : PE X (.Subscript o i pos) (tMGet X.prog X.w td ty) := by
  refine ⟨fun pins s σ H Q I h => ?_⟩
  refine subD_of PySem.F.slot_dict_getitem.lookup hs (thn (ho.run pins s σ H _ I h) fun u s1 ⟨x, H1, I1, rx, q1⟩ => thn (hi.run pins s1 σ H1 _ I1 q1) fun iv s2 ⟨y, H2, I2, ry, a, b, k, kvs, v, ex, ey, m, eb, l, q2⟩ => ?_)
  subst ex ey
  obtain rfl : u = Value.ref a := rx
  obtain rfl : iv = Value.ref b := ry
  obtain ⟨_, _, dd, _⟩ := m.of I2.hok
  exact ⟨dd.typeIs, m_getItem hu I2 m eb l fun w' s3 I3 rw' => ⟨v, H2, I3, rw', q2⟩⟩
theorem pc_mnot (hu : X.A.units + 1 < cLine) (hi : PE X i ty) (ho : PE X o td) : PC X .NotIn i o (tMNot X.prog X.w ty td) := by
  refine ⟨fun pins s σ H Q I h => ?_⟩
  refine thn (hi.run pins s σ H _ I h) fun iv s1 ⟨y, H1, I1, ry, q1⟩ => thn (ho.run pins s1 σ H1 _ I1 q1) fun u s2 ⟨x, H2, I2, rx, a, b, k, kvs, ex, ey, m, eb, q2⟩ => ?_
  subst ex ey
  obtain rfl : u = Value.ref a := rx
  obtain rfl : iv = Value.ref b := ry
  exact m_notIn hu I2 m eb fun s3 I3 => ⟨.bl (!(valV kvs k).isSome), H2, I3, rfl, q2⟩
theorem ps_mput (hu : X.A.units + 1 < cLine) (ho : PE X o td) (hi : PE X i ty) (hv : PE X value tv) (hs : swapsWith value (some (.Subscript o i pos')) pos.line X.env = pure false) :
    PS X (.Assign [.Subscript o i pos'] value pos) (sMPut X.prog X.w td ty tv) := by
  refine ⟨fun pins s σ H D I h => ?_⟩
  refine wpAny_Assign_Subscript (thn (hv.run pins s σ H _ I h) fun r s1 ⟨v, H1, I1, rv, q1⟩ => thn (ho.run pins s1 σ H1 _ I1 q1) fun u s2 ⟨x, H2, I2, rx, q2⟩ => thn (hi.run pins s2 σ H2 _ I2 q2) fun iv s3 ⟨y, H3, I3, ry, a, b, k, kvs, ex, ey, m, eb, hl, q3⟩ => ?_) hs
  subst ex ey
  obtain rfl : u = Value.ref a := rx
  obtain rfl : iv = Value.ref b := ry
  exact m_setItem hu I3 m eb hl rv fun φ s4 m4 I4 => ⟨σ, _, I4, q3 φ m4⟩
/-- {}, a memo -/
def tMNew (P : Program) (w : World) : TE := fun _ H Q => ∀ p φ, H p = none → MemoAt P w (upd H p (.ext φ)) p [] → Q (.ref p) (upd H p (.ext φ))
theorem pe_mnew : PE X (.Dict [] [] pos) (tMNew X.prog X.w) := ⟨fun pins s σ H Q I h => by
  have hM : MObj X.prog X.w [] s.heap.objs.size (s.heap.push { cls := .type "dict", data := .dict #[] }) := ⟨_, #[], 0, Heap.get?_push_size _ rfl, ⟨rfl, rfl, rfl⟩, rfl, rfl, List.nodup_nil⟩
  exact wpAny_Dict_empty ⟨.ref s.heap.objs.size, _, I.laid (a := s.heap.objs.size) (o := .ext (MObj X.prog X.w [] s.heap.objs.size)) (t' := s.toks) (fun _ _ q => Heap.get?_push_of_some _ q) (Nat.le_refl _) hM.ok, rfl,
    h _ _ (I.hok.fresh (Nat.le_refl _)) ⟨Nat.zero_le _, beq_eq_false_iff_ne.mpr (Ne.symm (Nat.ne_of_lt I.big)), [], .nil, upd_same⟩⟩⟩
end
end Fw
namespace Fw
open PySem PySem.Spec PyProof.Rows L2
def rowZ (f : Nat → Nat) (m : Nat) : Nat := if h : m = 0 then 0 else rowZ f (m / 2) + f m + rowZ f ((m + 1) / 2 - 1)
termination_by m
decreasing_by all_goals omega
def freeZ (n h : Nat) : Option Nat → Bool
  | none => true
  | some k => decide (((Builtin.Int.intBits (n : Int) : Nat) : Int) ≤ (k : Int)) || decide ((h : Int) < (k : Int))
def treeZ : Nat → Nat → Option Nat → Nat
  | 0, _, _ => 1
  | h + 1, n, b => if freeZ n (h + 1) b = true then rowZ (fun m => treeZ h m none) n else
    treeZ h n b + (match b with
      | none => 0
      | some k => if 1 < k then 2 * rowZ (fun m => treeZ h m (some (k - 1))) (n - 1) else 0)
def sz (r : Bool) (h : Nat) (b : Option Nat) (m : Nat) : Nat := if r = true then rowZ (fun m => treeZ h m b) m else treeZ h m b
def kyZ (r : Bool) (m h : Nat) (b : Option Nat) : List Leaf := [.text (if r = true then "row" else "tree"), .num m, .num h, match b with | none => .none | some k => .num k]
def bV : Option Nat → V
  | none => .non
  | some k => .int k
def bD : Option Nat → D
  | none => .non
  | some k => .int k
theorem rowZ_zero (f : Nat → Nat) : rowZ f 0 = 0 := by rw [rowZ, dif_pos rfl]
theorem rowZ_pos (f : Nat → Nat) {m : Nat} (h : 0 < m) : rowZ f m = rowZ f (m / 2) + f m + rowZ f ((m + 1) / 2 - 1) := by
  rw [rowZ, dif_neg (by omega)]
theorem ky_inj {r r' : Bool} {m m' h h' : Nat} {b b' : Option Nat} (e : kyZ r m h b = kyZ r' m' h' b') : r = r' ∧ m = m' ∧ h = h' ∧ b = b' := by
  unfold kyZ at e
  have e1 := (List.cons.inj e).1
  have e := (List.cons.inj e).2
  have e2 := (List.cons.inj e).1
  have e := (List.cons.inj e).2
  have e3 := (List.cons.inj e).1
  have e := (List.cons.inj e).2
  have e4 := (List.cons.inj e).1
  refine ⟨?_, ?_, ?_, ?_⟩
  · have e1 := Leaf.text.inj e1
    cases r <;> cases r' <;> first | rfl | exact absurd e1 (by decide)
  · have := Leaf.num.inj e2
    omega
  · have := Leaf.num.inj e3
    omega
  · cases b with
    | none =>
      cases b' with
      | none => rfl
      | some k => cases e4
    | some k =>
      cases b' with
      | none => cases e4
      | some k' =>
        have := Leaf.num.inj e4
        congr 1
        omega
theorem treeZ_free {h n : Nat} {b : Option Nat} (e : freeZ n (h + 1) b = true) : treeZ (h + 1) n b = rowZ (fun m => treeZ h m none) n := by
  show (if freeZ n (h + 1) b = true then rowZ (fun m => treeZ h m none) n else _) = _
  rw [if_pos e]
theorem treeZ_some {h n k : Nat} (e : freeZ n (h + 1) (some k) = false) : treeZ (h + 1) n (some k) = treeZ h n (some k) + (if 1 < k then 2 * rowZ (fun m => treeZ h m (some (k - 1))) (n - 1) else 0) := by
  show (if freeZ n (h + 1) (some k) = true then _ else treeZ h n (some k) + (if 1 < k then 2 * rowZ (fun m => treeZ h m (some (k - 1))) (n - 1) else 0)) = _
  rw [if_neg (by rw [e]; simp)]
structure GoodZ (C : Bool → Nat → Nat → Option Nat → Prop) (kvs : List (List Leaf × V)) : Prop where
  nd : (kvs.map (·.1)).Nodup
  ok : ∀ key v, valV kvs key = some v → ∃ r m h b, 0 < m ∧ C r m h b ∧ key = kyZ r m h b ∧ v = .int ((sz r h b m : Nat) : Int)
/-- the questions that come up -/
structure Clz (C : Bool → Nat → Nat → Option Nat → Prop) : Prop where
  r1 : ∀ m h b, 0 < m → C true m h b → C true (m / 2) h b ∧ C true ((m + 1) / 2 - 1) h b ∧ C false m h b
  t1 : ∀ m h b, 0 < m → C false m (h + 1) b → freeZ m (h + 1) b = true → C true m h none
  t2 : ∀ m h k, 0 < m → C false m (h + 1) (some k) → freeZ m (h + 1) (some k) = false → C false m h (some k) ∧ (1 < k → C true (m - 1) h (some (k - 1)))
  fin : ∃ L : List (List Leaf), L.length < sizeLine ∧ ∀ r m h b, 0 < m → C r m h b → kyZ r m h b ∈ L
theorem nodup_leZ {α : Type} [DecidableEq α] : ∀ (l m : List α), l.Nodup → (∀ x ∈ l, x ∈ m) → l.length ≤ m.length
  | [], m, _, _ => Nat.zero_le _
  | x :: l, m, hn, hs => by
    obtain ⟨h1, h2⟩ := List.nodup_cons.mp hn
    have hx := hs x List.mem_cons_self
    have := nodup_leZ l (m.erase x) h2 fun y hy => (List.mem_erase_of_ne fun e => h1 (by rw [← e]; exact hy)).mpr (hs y (List.mem_cons_of_mem _ hy))
    rw [List.length_erase_of_mem hx] at this
    have := List.length_pos_of_mem hx
    rw [List.length_cons]
    omega
theorem nodup_put {κ : Type} [DecidableEq κ] {kvs : List (κ × V)} (h : (kvs.map (·.1)).Nodup) (k : κ) (v : V) : ((putK kvs k v).map (·.1)).Nodup := by
  unfold putK
  by_cases c : (kvs.any fun kv => decide (kv.1 = k)) = true
  · rw [if_pos c, List.map_map]
    have e : (fun kv : κ × V => kv.1) ∘ (fun kv : κ × V => if kv.1 = k then (kv.1, v) else kv) = fun kv => kv.1 := by
      funext kv
      show (if kv.1 = k then (kv.1, v) else kv).1 = kv.1
      split <;> rfl
    rw [e]
    exact h
  · rw [if_neg c, List.map_append, List.nodup_append]
    refine ⟨h, by simp, fun x hx y hy e => c ?_⟩
    obtain ⟨p, hp, rfl⟩ := List.mem_map.mp hx
    have hy : y = k := by simpa using hy
    exact List.any_eq_true.mpr ⟨p, hp, decide_eq_true (e.trans hy)⟩
theorem GoodZ.few {C : Bool → Nat → Nat → Option Nat → Prop} (hC : Clz C) {kvs : List (List Leaf × V)} (g : GoodZ C kvs) : kvs.length < sizeLine := by
  obtain ⟨L, hL, hm⟩ := hC.fin
  have := nodup_leZ _ L g.nd fun key hk => by
    cases e : valV kvs key with
    | none => exact absurd hk (valV_not e)
    | some v =>
      obtain ⟨r, m, h, b, h1, h2, h3, _⟩ := g.ok key v e
      rw [h3]
      exact hm r m h b h1 h2
  rw [List.length_map] at this
  omega
theorem GoodZ.put {C : Bool → Nat → Nat → Option Nat → Prop} {kvs : List (List Leaf × V)} (g : GoodZ C kvs) {r : Bool} {m h : Nat} {b : Option Nat} (hm : 0 < m) (hc : C r m h b) : GoodZ C (putK kvs (kyZ r m h b) (.int ((sz r h b m : Nat) : Int))) := ⟨nodup_put g.nd _ _, fun key v e => by
  rw [valV_put] at e
  by_cases c : key = kyZ r m h b
  · rw [if_pos c] at e
    cases e
    exact ⟨r, m, h, b, hm, hc, c, rfl⟩
  · rw [if_neg c] at e
    exact g.ok key v e⟩
theorem GoodZ.at {C : Bool → Nat → Nat → Option Nat → Prop} {kvs : List (List Leaf × V)} (g : GoodZ C kvs) {r : Bool} {m h : Nat} {b : Option Nat} {v : V} (e : valV kvs (kyZ r m h b) = some v) : v = .int ((sz r h b m : Nat) : Int) := by
  obtain ⟨r', m', h', b', _, _, k1, k2⟩ := g.ok _ _ e
  obtain ⟨rfl, rfl, rfl, rfl⟩ := ky_inj k1
  exact k2
def ExtZ (a : Addr) (H H' : Hp) : Prop := ∀ c o, c ≠ a → H c = some o → H' c = some o
def spZ (r : Bool) (P : Program) (w : World) (C : Bool → Nat → Nat → Option Nat → Prop) (k : Nat) : Sp := fun vs H Q _ => ∃ (m h d : Nat) (b : Option Nat) (a : Addr) (kvs : List (List Leaf × V)), vs = [.int m, .int h, bV b, .ref a] ∧ C r m h b ∧ (r = false → 0 < m) ∧
  m < 2 ^ d ∧ 2 * h + (if r = true then 1 else 0) + d < k ∧ MemoAt P w H a kvs ∧ GoodZ C kvs ∧ ∀ H' kvs', ExtZ a H H' → MemoAt P w H' a kvs' → GoodZ C kvs' → Q (.int ((sz r h b m : Nat) : Int)) H'
structure DefS (P : Program) (wd : World) (K : PySem.W.Frag) (mg : Str → Option Value) (base : Heap) (k : Nat) (x : Str) (sp : Sp) : Prop where
  ex : ∃ (f : Addr) (fd : FuncData) (ps : List Str), mg x = some (.ref f) ∧ PySem.W.keepIn K (.ref f) = true ∧ Binds K fd ps [] ∧ FnOk P wd K mg base CX0 k f fd ps sp
theorem Def.toS {P : Program} {wd : World} {K : PySem.W.Frag} {mg : Str → Option Value} {base : Heap} {cl : Nat → ClsT} {k : Nat} {x : Str} {np : Nat} {F : List D → Ret} (d : Def P wd K mg base cl k x np F) : DefS P wd K mg base k x (spF K cl np F) := ⟨d.ex⟩
theorem DefS.mono {P : Program} {wd : World} {K : PySem.W.Frag} {mg : Str → Option Value} {base : Heap} {j k : Nat} {x : Str} {sp : Sp} (d : DefS P wd K mg base j x sp) (h : j ≤ k) : DefS P wd K mg base k x sp :=
  let ⟨f, fd, ps, a, b, c, o⟩ := d.ex
  ⟨f, fd, ps, a, b, c, o.mono h⟩
section
variable {X : Cx} {e : Expr} {es : List Expr} {pos p : Pos} {x : Str} {k : Nat} {sp : Sp} {t : TA}
theorem pe_callZ (d : DefS X.prog X.w X.K X.mg X.base k x sp) (hr : Room k X.A) (hg : Gl X x) (ha : PA X (e :: es) t)
    (hdb : (x == ("__debug__" : Str)) = false := by decide) (he : starEach (e :: es) X.env = (false, eval e X.env) :: starEach es X.env := by rfl) (hpl : (backTo pos (starEach es X.env)).any (·.1) = false := by rfl) :
    PE X (.Call (.Name x p) (e :: es) [] pos) (tCall sp [] E0 t) := by
  obtain ⟨f, fd, ps, a, b, c, o⟩ := d.ex
  exact pe_call (E := E0) o hr hg a b c .nil pass0 ha hdb he hpl
end
/-- a def of plain data, asked of ints -/
theorem spF_pure {K : PySem.W.Frag} {cl : Nat → ClsT} {np : Nat} {F : List D → Ret} {vs : List V} {ds : List D} {H : Hp} {Q : VK} {E : XK} {d : D} {u : V} (h1 : Dens K cl (fun _ => none) ds vs) (h2 : ds.length = np) (h3 : toD (F ds) = some d)
    (hd : ∀ G v, Den K cl G d v → v = u) (q : ∀ H', Same H H' → Q u H') : spF K cl np F vs H Q E := by
  refine ⟨fun _ => none, ds, fun b o e => (nomatch e), h1, h2, retP_of h3 fun v H' G' g z => ?_⟩
  rw [hd _ _ z]
  exact q H' g.hh
def tKeyZ (s : Str) (i : Nat) : TS := tAsg (tTup (tCons (tC (.str s)) (tCons (tVar 0) (tCons (tVar 1) (tCons (tVar 2) tNil))))) (gName i)
def tRowZ (P : Program) (w : World) (fh lh ro tr : Sp) : TS :=
  tSeq (tIfS (tB (tEqI (tVar 0) (tC (.int 0)))) (tRet (tC (.int 0))) tNext)
  (tSeq (tKeyZ "row" 4)
  (tSeq (tIfS (tB (tMNot P w (tVar 4) (tVar 3)))
    (tSeq (tAsg (tCall ro [] E0 (tCons (tCall fh [] E0 (tCons (tVar 0) tNil)) (tCons (tVar 1) (tCons (tVar 2) (tCons (tVar 3) tNil))))) (gName 5))
    (tSeq (tAsg (tCall ro [] E0 (tCons (tCall lh [] E0 (tCons (tVar 0) tNil)) (tCons (tVar 1) (tCons (tVar 2) (tCons (tVar 3) tNil))))) (gName 6))
      (sMPut P w (tVar 3) (tVar 4) (tAdd (tAdd (tVar 5) (tCall tr [] E0 (tCons (tVar 0) (tCons (tVar 1) (tCons (tVar 2) (tCons (tVar 3) tNil)))))) (tVar 6))))) tNext)
  (tRet (tMGet P w (tVar 3) (tVar 4)))))
def tTreeZ (P : Program) (w : World) (isf ro tr : Sp) : TS :=
  tSeq (tIfS (tB (tEqI (tVar 1) (tC (.int 0)))) (tRet (tC (.int 1))) tNext)
  (tSeq (tKeyZ "tree" 4)
  (tSeq (tIfS (tB (tMNot P w (tVar 4) (tVar 3)))
    (tSeq (tIfS (tB (tCall isf [] E0 (tCons (tVar 0) (tCons (tVar 1) (tCons (tVar 2) tNil)))))
        (tAsg (tCall ro [] E0 (tCons (tVar 0) (tCons (tSub (tVar 1) (tC (.int 1))) (tCons (tC .non) (tCons (tVar 3) tNil))))) (gName 5))
        (tSeq (tAsg (tCall tr [] E0 (tCons (tVar 0) (tCons (tSub (tVar 1) (tC (.int 1))) (tCons (tVar 2) (tCons (tVar 3) tNil))))) (gName 5))
          (tIfS (tB (tGt (tVar 2) (tC (.int 1))))
            (tAsg (tAdd (tVar 5) (tMul (tC (.int 2)) (tCall ro [] E0 (tCons (tSub (tVar 0) (tC (.int 1))) (tCons (tSub (tVar 1) (tC (.int 1))) (tCons (tSub (tVar 2) (tC (.int 1))) (tCons (tVar 3) tNil))))))) (gName 5)) tNext)))
      (sMPut P w (tVar 3) (tVar 4) (tVar 5))) tNext)
  (tRet (tMGet P w (tVar 3) (tVar 4)))))
theorem MemoAt.same {P : Program} {w : World} {H H' : Hp} {a : Addr} {kvs : List (List Leaf × V)} (m : MemoAt P w H a kvs) (s : Same H H') : MemoAt P w H' a kvs := by
  obtain ⟨h1, h2, xs, r, e⟩ := m
  exact ⟨h1, h2, xs, r.keeps fun b ys q => s b _ q, s a _ e⟩
theorem MemoAt.nf {P : Program} {w : World} {H : Hp} {a p : Addr} {kvs : List (List Leaf × V)} (m : MemoAt P w H a kvs) (e : H p = none) : p ≠ a := by
  obtain ⟨_, _, _, _, q⟩ := m
  intro z
  subst z
  rw [q] at e
  cases e
theorem ExtZ.refl (a : Addr) (H : Hp) : ExtZ a H H := fun _ _ _ h => h
theorem ExtZ.trans {a : Addr} {H H1 H2 : Hp} (h1 : ExtZ a H H1) (h2 : ExtZ a H1 H2) : ExtZ a H H2 := fun c o hc e => h2 c o hc (h1 c o hc e)
theorem ExtZ.same {a : Addr} {H H1 : Hp} (s : Same H H1) : ExtZ a H H1 := fun c o _ e => s c o e
theorem ExtZ.upd {a : Addr} {H : Hp} {o : HO} : ExtZ a H (L2.upd H a o) := fun c o' hc e => by rw [upd_ne hc]; exact e
theorem ky_vs (r : Bool) (m h : Nat) (b : Option Nat) : (kyZ r m h b).map lV = [.str (if r = true then "row" else "tree"), .int m, .int h, bV b] := by
  cases b <;> rfl
section
variable {P : Program} {w : World} {K : PySem.W.Frag} {cl : Nat → ClsT} {C : Bool → Nat → Nat → Option Nat → Prop} {k : Nat} {Ff Fl Fi : List D → Ret} {vs : List V} {H : Hp} {Q : VK} {E : XK} {D0 : L2.St → Hp → Prop}
theorem dens_one {i : Int} : Dens K cl (fun _ => none) [D.int i] [.int i] := Dens.cons (by simp only [Den]) Dens.nil
/-- the walk's start -/
def stZ (m h : Nat) (b : Option Nat) (a : Addr) (r : List (Option V)) : L2.St := some (.int m) :: some (.int h) :: some (bV b) :: some (.ref a) :: r
theorem row_sem (hC : Clz C) (hf : ∀ m : Nat, toD (Ff [D.int m]) = some (D.int ((m / 2 : Nat) : Int))) (hl : ∀ m : Nat, 0 < m → toD (Fl [D.int m]) = some (D.int (((m + 1) / 2 - 1 : Nat) : Int)))
    {m h d : Nat} {b : Option Nat} {a : Addr} {kvs : List (List Leaf × V)} (hc : C true m h b) (hd : m < 2 ^ d) (hk : 2 * h + 1 + d < k + 1) (mem : MemoAt P w H a kvs) (g : GoodZ C kvs)
    (q : ∀ H' kvs', ExtZ a H H' → MemoAt P w H' a kvs' → GoodZ C kvs' → Q (.int ((sz true h b m : Nat) : Int)) H') :
    tRowZ P w (spF K cl 1 Ff) (spF K cl 1 Fl) (spZ true P w C k) (spZ false P w C k) { nx := D0, rt := Q } (stZ m h b a [none, none, none]) H := by
  refine ⟨.int m, rfl, (m : Int), 0, rfl, rfl, decide ((m : Int) = 0), rfl, ?_⟩
  by_cases hm : m = 0
  · subst hm
    dsimp only
    rw [if_pos (by rfl)]
    have e : ((sz true h b 0 : Nat) : Int) = 0 := by
      unfold sz
      rw [if_pos rfl, rowZ_zero]
      rfl
    rw [e] at q
    exact q H kvs (ExtZ.refl a H) mem g
  dsimp only
  rw [if_neg (by rw [decide_eq_false (by omega)]; simp)]
  have hm0 : 0 < m := by omega
  have hd1 : 1 ≤ d := by
    apply Classical.byContradiction
    intro z
    rw [show d = 0 by omega] at hd
    omega
  obtain ⟨d, rfl⟩ : ∃ e, d = e + 1 := ⟨d - 1, by omega⟩
  have hp2 : 2 ^ (d + 1) = 2 * 2 ^ d := by rw [Nat.pow_succ]; omega
  obtain ⟨c1, c2, c3⟩ := hC.r1 m h b hm0 hc
  refine ⟨.int m, rfl, .int h, rfl, bV b, rfl, (by show 4 ≤ sizeLine; decide), fun p hp => ?_⟩
  have eb : L2.upd H p (.tup [.str "row", .int m, .int h, bV b]) p = some (.tup ((kyZ true m h b).map lV)) := by
    rw [upd_same, ky_vs]
    rfl
  have s1 : Same H (L2.upd H p (.tup [.str "row", .int m, .int h, bV b])) := same_upd hp
  have m1 := mem.same s1
  generalize hH1 : L2.upd H p (.tup [.str "row", .int m, .int h, bV b]) = H1 at eb s1 m1
  have hpa : p ≠ a := mem.nf hp
  refine ⟨.ref p, rfl, .ref a, rfl, a, p, kyZ true m h b, kvs, rfl, rfl, m1, eb, (!(valV kvs (kyZ true m h b)).isSome), rfl, ?_⟩
  cases hv : valV kvs (kyZ true m h b) with
  | some v =>
    dsimp only
    rw [if_neg (by simp)]
    have := g.at hv
    subst this
    exact ⟨.ref a, rfl, .ref p, rfl, a, p, kyZ true m h b, kvs, _, rfl, rfl, m1, eb, hv, q H1 kvs (ExtZ.same s1) m1 g⟩
  | none =>
    dsimp only
    rw [if_pos (by rfl)]
    refine ⟨.int m, rfl, spF_pure (E := E0) dens_one rfl (hf m) (u := .int ((m / 2 : Nat) : Int)) (fun G v z => by simpa only [Den] using z) fun H2 s2 => ⟨.int h, rfl, bV b, rfl, .ref a, rfl, ?_⟩⟩
    refine ⟨m / 2, h, d, b, a, kvs, rfl, c1, (fun z => nomatch z), by omega, by rw [if_pos rfl]; omega, m1.same s2, g, fun H3 kvs3 x3 m3 g3 => ?_⟩
    have eb3 := x3 p _ hpa (s2 p _ eb)
    refine ⟨.int m, rfl, spF_pure (E := E0) dens_one rfl (hl m hm0) (u := .int (((m + 1) / 2 - 1 : Nat) : Int)) (fun G v z => by simpa only [Den] using z) fun H4 s4 => ⟨.int h, rfl, bV b, rfl, .ref a, rfl, ?_⟩⟩
    refine ⟨(m + 1) / 2 - 1, h, d, b, a, kvs3, rfl, c2, (fun z => nomatch z), by omega, by rw [if_pos rfl]; omega, m3.same s4, g3, fun H5 kvs5 x5 m5 g5 => ?_⟩
    have eb5 := x5 p _ hpa (s4 p _ eb3)
    refine ⟨_, rfl, .int m, rfl, .int h, rfl, bV b, rfl, .ref a, rfl, ?_⟩
    refine ⟨m, h, d + 1, b, a, kvs5, rfl, c3, (fun _ => hm0), hd, by rw [if_neg (by simp)]; omega, m5, g5, fun H6 kvs6 x6 m6 g6 => ?_⟩
    have eb6 := x6 p _ hpa eb5
    refine ⟨_, _, rfl, rfl, _, rfl, _, _, rfl, rfl, .ref a, rfl, .ref p, rfl, a, p, kyZ true m h b, kvs6, rfl, rfl, m6, eb6, g6.few hC, fun φ m7 => ?_⟩
    have hsz : (((sz true h b (m / 2) : Nat) : Int) + ((sz false h b m : Nat) : Int) + ((sz true h b ((m + 1) / 2 - 1) : Nat) : Int)) = ((sz true h b m : Nat) : Int) := by
      have e : sz true h b m = sz true h b (m / 2) + sz false h b m + sz true h b ((m + 1) / 2 - 1) := by
        unfold sz
        rw [if_pos rfl, if_pos rfl, if_pos rfl, if_neg (by simp)]
        exact rowZ_pos _ hm0
      omega
    rw [hsz] at m7
    have g7 := g6.put hm0 hc
    have hx : ExtZ a H (L2.upd H6 a (.ext φ)) := (((((ExtZ.same s1).trans (ExtZ.same s2)).trans x3).trans (ExtZ.same s4)).trans x5).trans (x6.trans ExtZ.upd)
    have eb7 : L2.upd H6 a (.ext φ) p = some (.tup ((kyZ true m h b).map lV)) := by
      rw [upd_ne hpa]
      exact eb6
    exact ⟨.ref a, rfl, .ref p, rfl, a, p, kyZ true m h b, _, _, rfl, rfl, m7, eb7, by rw [valV_put, if_pos rfl], q _ _ hx m7 g7⟩
theorem tree_sem (hC : Clz C) (hi : ∀ (m h : Nat) (b : Option Nat), toD (Fi [D.int m, D.int h, bD b]) = some (D.bl (freeZ m h b)))
    {m h d : Nat} {b : Option Nat} {a : Addr} {kvs : List (List Leaf × V)} (hc : C false m h b) (hm0 : 0 < m) (hd : m < 2 ^ d) (hk : 2 * h + d < k + 1) (mem : MemoAt P w H a kvs) (g : GoodZ C kvs)
    (q : ∀ H' kvs', ExtZ a H H' → MemoAt P w H' a kvs' → GoodZ C kvs' → Q (.int ((sz false h b m : Nat) : Int)) H') :
    tTreeZ P w (spF K cl 3 Fi) (spZ true P w C k) (spZ false P w C k) { nx := D0, rt := Q } (stZ m h b a [none, none]) H := by
  refine ⟨.int h, rfl, (h : Int), 0, rfl, rfl, decide ((h : Int) = 0), rfl, ?_⟩
  dsimp only
  cases h with
  | zero =>
    rw [if_pos (by rfl)]
    exact q H kvs (ExtZ.refl a H) mem g
  | succ h =>
  rw [if_neg (by rw [decide_eq_false (by omega)]; simp)]
  refine ⟨.int m, rfl, .int ((h + 1 : Nat) : Int), rfl, bV b, rfl, (by show 4 ≤ sizeLine; decide), fun p hp => ?_⟩
  have eb : L2.upd H p (.tup [.str "tree", .int m, .int ((h + 1 : Nat) : Int), bV b]) p = some (.tup ((kyZ false m (h + 1) b).map lV)) := by
    rw [upd_same, ky_vs]
    rfl
  have s1 : Same H (L2.upd H p (.tup [.str "tree", .int m, .int ((h + 1 : Nat) : Int), bV b])) := same_upd hp
  have m1 := mem.same s1
  generalize hH1 : L2.upd H p (.tup [.str "tree", .int m, .int ((h + 1 : Nat) : Int), bV b]) = H1 at eb s1 m1
  have hpa : p ≠ a := mem.nf hp
  refine ⟨.ref p, rfl, .ref a, rfl, a, p, kyZ false m (h + 1) b, kvs, rfl, rfl, m1, eb, (!(valV kvs (kyZ false m (h + 1) b)).isSome), rfl, ?_⟩
  have hh1 : ((h + 1 : Nat) : Int) - 1 = (h : Int) := by omega
  have hm1 : (m : Int) - 1 = ((m - 1 : Nat) : Int) := by omega
  cases hv : valV kvs (kyZ false m (h + 1) b) with
  | some v =>
    dsimp only
    rw [if_neg (by simp)]
    have := g.at hv
    subst this
    exact ⟨.ref a, rfl, .ref p, rfl, a, p, kyZ false m (h + 1) b, kvs, _, rfl, rfl, m1, eb, hv, q H1 kvs (ExtZ.same s1) m1 g⟩
  | none =>
    dsimp only
    rw [if_pos (by rfl)]
    -- behind the size: it is written and told
    have fin : ∀ (v : Nat) (H2 : Hp) (kvs2 : List (List Leaf × V)) (σ2 : L2.St), v = sz false (h + 1) b m → σ2 = stZ m (h + 1) b a [some (.ref p), some (.int (v : Int))] → ExtZ a H H2 → H2 p = some (.tup ((kyZ false m (h + 1) b).map lV)) → MemoAt P w H2 a kvs2 → GoodZ C kvs2 →
        sMPut P w (tVar 3) (tVar 4) (tVar 5) { nx := tRet (tMGet P w (tVar 3) (tVar 4)) { nx := D0, rt := Q }, rt := Q } σ2 H2 := fun v H2 kvs2 σ2 ev eσ x2 e2 m2 g2 => by
      subst ev eσ
      refine ⟨_, rfl, .ref a, rfl, .ref p, rfl, a, p, kyZ false m (h + 1) b, kvs2, rfl, rfl, m2, e2, g2.few hC, fun φ m7 => ?_⟩
      have eb7 : L2.upd H2 a (.ext φ) p = some (.tup ((kyZ false m (h + 1) b).map lV)) := by
        rw [upd_ne hpa]
        exact e2
      exact ⟨.ref a, rfl, .ref p, rfl, a, p, kyZ false m (h + 1) b, _, _, rfl, rfl, m7, eb7, by rw [valV_put, if_pos rfl], q _ _ (x2.trans ExtZ.upd) m7 (g2.put hm0 hc)⟩
    have hden : Dens K cl (fun _ => none) [D.int m, D.int ((h + 1 : Nat) : Int), bD b] [.int m, .int ((h + 1 : Nat) : Int), bV b] := by
      refine Dens.cons (by simp only [Den]) (Dens.cons (by simp only [Den]) (Dens.cons ?_ Dens.nil))
      cases b with
      | none => simp only [bD, bV, Den]
      | some k => simp only [bD, bV, Den]
    refine ⟨.int m, rfl, .int ((h + 1 : Nat) : Int), rfl, bV b, rfl, spF_pure (E := E0) hden rfl (hi m (h + 1) b) (u := .bl (freeZ m (h + 1) b)) (fun G v z => by simpa only [Den] using z) fun H2 s2 => ⟨_, rfl, ?_⟩⟩
    have eb2 := s2 p _ eb
    have m2 := m1.same s2
    have x2 : ExtZ a H H2 := (ExtZ.same s1).trans (ExtZ.same s2)
    cases hfr : freeZ m (h + 1) b with
    | true =>
      dsimp only
      rw [if_pos rfl]
      have c1 := hC.t1 m h b hm0 hc hfr
      refine ⟨.int m, rfl, .int ((h + 1 : Nat) : Int), rfl, _, _, rfl, rfl, .ref a, rfl, ?_⟩
      rw [hh1]
      refine ⟨m, h, d, none, a, kvs, rfl, c1, (fun z => nomatch z), hd, by rw [if_pos rfl]; omega, m2, g, fun H3 kvs3 x3 m3 g3 => ?_⟩
      refine fin (sz true h none m) H3 kvs3 _ ?_ rfl (x2.trans x3) (x3 p _ hpa eb2) m3 g3
      unfold sz
      rw [if_pos rfl, if_neg (by simp), treeZ_free hfr]
    | false =>
      dsimp only
      rw [if_neg (by simp)]
      cases b with
      | none => cases hfr
      | some k' =>
      obtain ⟨c1, c2⟩ := hC.t2 m h k' hm0 hc hfr
      refine ⟨.int m, rfl, .int ((h + 1 : Nat) : Int), rfl, _, _, rfl, rfl, .int k', rfl, .ref a, rfl, ?_⟩
      rw [hh1]
      refine ⟨m, h, d, some k', a, kvs, rfl, c1, (fun _ => hm0), hd, by rw [if_neg (by simp)]; omega, m2, g, fun H3 kvs3 x3 m3 g3 => ?_⟩
      have eb3 := x3 p _ hpa eb2
      refine ⟨.int k', rfl, (k' : Int), 1, rfl, rfl, decide ((1 : Int) < (k' : Int)), rfl, ?_⟩
      dsimp only
      by_cases hk1 : 1 < k'
      · rw [if_pos (decide_eq_true (by omega))]
        have hk2 : (k' : Int) - 1 = ((k' - 1 : Nat) : Int) := by omega
        refine ⟨_, rfl, .int m, rfl, _, _, rfl, rfl, .int ((h + 1 : Nat) : Int), rfl, _, _, rfl, rfl, .int k', rfl, _, _, rfl, rfl, .ref a, rfl, ?_⟩
        rw [hm1, hh1, hk2]
        refine ⟨m - 1, h, d, some (k' - 1), a, kvs3, rfl, c2 hk1, (fun z => nomatch z), by omega, by rw [if_pos rfl]; omega, m3, g3, fun H4 kvs4 x4 m4 g4 => ?_⟩
        refine ⟨_, _, rfl, rfl, ⟨by decide, by decide⟩, _, _, rfl, rfl, ?_⟩
        have ev : (((sz false h (some k') m : Nat) : Int) + 2 * ((sz true h (some (k' - 1)) (m - 1) : Nat) : Int)) = ((sz false (h + 1) (some k') m : Nat) : Int) := by
          have : sz false (h + 1) (some k') m = sz false h (some k') m + 2 * sz true h (some (k' - 1)) (m - 1) := by
            unfold sz
            rw [if_neg (by simp), if_neg (by simp), if_pos rfl, treeZ_some hfr, if_pos hk1]
          omega
        dsimp only
        rw [ev]
        exact fin (sz false (h + 1) (some k') m) H4 kvs4 _ rfl rfl ((x2.trans x3).trans x4) (x4 p _ hpa eb3) m4 g4
      · rw [if_neg (by rw [decide_eq_false (by omega)]; simp)]
        refine fin (sz false h (some k') m) H3 kvs3 _ ?_ rfl (x2.trans x3) eb3 m3 g3
        unfold sz
        rw [if_neg (by simp), if_neg (by simp), treeZ_some hfr, if_neg hk1]
        omega
end
end Fw
namespace Fw
open PySem PySem.Spec PyProof.Rows L2
def slkZ : Option Nat → Nat
  | none => 16
  | some k => 14 - k
def ReZ (N : Nat) (_ : Bool) (m h : Nat) (b : Option Nat) : Prop := h ≤ 12 ∧ (∀ k, b = some k → k ≤ 12) ∧ ∃ i, i ≤ 20 ∧ N / 2 ^ i ≤ m + slkZ b ∧ m ≤ N / 2 ^ i
theorem slk_some {k : Nat} (h : k ≤ 12) : 2 ≤ slkZ (some k) ∧ slkZ (some k) ≤ 14 := by
  unfold slkZ
  dsimp only
  omega
theorem slk_le {b : Option Nat} (h : ∀ k, b = some k → k ≤ 12) : 2 ≤ slkZ b ∧ slkZ b ≤ 16 := by
  cases b with
  | none => exact ⟨by decide, by decide⟩
  | some k =>
    have := slk_some (h k rfl)
    omega
theorem halfZ (N i : Nat) : N / 2 ^ (i + 1) = N / 2 ^ i / 2 := by rw [Nat.pow_succ, Nat.div_div_eq_div_mul]
def LsZ (N : Nat) : List (List Leaf) := [true, false].flatMap fun r => (List.range 21).flatMap fun i => (List.range 17).flatMap fun δ => (List.range 13).flatMap fun h => (none :: (List.range 13).map some).map fun b => kyZ r (N / 2 ^ i - δ) h b
theorem LsZ_len (N : Nat) : (LsZ N).length = 129948 := by
  unfold LsZ
  simp [List.length_flatMap, List.map_const', List.sum_replicate_nat]
theorem clz_re {N : Nat} (hN : N < 2 ^ 20) : Clz (ReZ N) := by
  refine ⟨fun m h b hm hc => ?_, fun m h b hm hc hf => ?_, fun m h k hm hc hf => ?_, LsZ N, ?_, fun r m h b hm hc => ?_⟩
  · obtain ⟨h1, h2, i, h3, h4, h5⟩ := hc
    have hs := slk_le h2
    have hi : i < 20 := by
      apply Classical.byContradiction
      intro z
      have e : i = 20 := by omega
      subst e
      have : N / 2 ^ 20 = 0 := Nat.div_eq_of_lt hN
      omega
    have hh := halfZ N i
    generalize hx : N / 2 ^ i = x at h4 h5 hh
    exact ⟨⟨h1, h2, i + 1, by omega, by rw [hh]; omega, by rw [hh]; omega⟩, ⟨h1, h2, i + 1, by omega, by rw [hh]; omega, by rw [hh]; omega⟩, ⟨h1, h2, i, h3, by rw [hx]; omega, by rw [hx]; omega⟩⟩
  · obtain ⟨h1, h2, i, h3, h4, h5⟩ := hc
    have hs := slk_le h2
    refine ⟨by omega, fun k e => (nomatch e), i, h3, ?_, h5⟩
    have : slkZ none = 16 := rfl
    omega
  · obtain ⟨h1, h2, i, h3, h4, h5⟩ := hc
    have hk := h2 k rfl
    refine ⟨⟨by omega, h2, i, h3, h4, h5⟩, fun h1k => ⟨by omega, fun k' e => (by cases e; omega), i, h3, ?_, by omega⟩⟩
    have e1 : slkZ (some k) = 14 - k := rfl
    have e2 : slkZ (some (k - 1)) = 14 - (k - 1) := rfl
    omega
  · rw [LsZ_len]
    decide
  · obtain ⟨h1, h2, i, h3, h4, h5⟩ := hc
    have hs := slk_le h2
    unfold LsZ
    refine List.mem_flatMap.mpr ⟨r, by cases r <;> simp, List.mem_flatMap.mpr ⟨i, List.mem_range.mpr (by omega), List.mem_flatMap.mpr ⟨N / 2 ^ i - m, List.mem_range.mpr (by omega), List.mem_flatMap.mpr ⟨h, List.mem_range.mpr (by omega), List.mem_map.mpr ⟨b, ?_, ?_⟩⟩⟩⟩⟩
    · cases b with
      | none => simp
      | some k => exact List.mem_cons_of_mem _ (List.mem_map.mpr ⟨k, List.mem_range.mpr (by have := h2 k rfl; omega), rfl⟩)
    · congr 1
      omega
def boZ : D → Option (Option Nat)
  | .non => some none
  | .int k => if 0 ≤ k ∧ k ≤ 12 then some (some k.toNat) else none
  | _ => none
def uszF : List D → Ret
  | [.int n, .int h, b] => if 0 < n ∧ n < 1048576 ∧ 0 ≤ h ∧ h ≤ 12 then (match boZ b with
    | some b => .ok (.int ((treeZ h.toNat n.toNat b : Nat) : Int))
    | none => .stuck) else .stuck
  | _ => .stuck
theorem den_bo {K : PySem.W.Frag} {cl : Nat → ClsT} {G : Hp} {x : D} {b : Option Nat} {v : V} (h : boZ x = some b) (z : Den K cl G x v) : v = bV b := by
  cases x with
  | non =>
    cases h
    have : v = .non := by simpa only [Den] using z
    exact this
  | int k =>
    unfold boZ at h
    dsimp only at h
    split at h
    · rename_i hk
      cases h
      have : v = .int k := by simpa only [Den] using z
      rw [this]
      show V.int k = V.int ((k.toNat : Nat) : Int)
      rw [Int.toNat_of_nonneg hk.1]
    · cases h
  | _ => cases h
section
variable {P : Program} {w : World} {K : PySem.W.Frag} {cl : Nat → ClsT} {H : Hp} {Q : VK} {E : XK} {D0 : L2.St → Hp → Prop} {vs : List V}
def tUszZ (P : Program) (w : World) (tr : Sp) : TS := tRet (tCall tr [] E0 (tCons (tVar 0) (tCons (tVar 1) (tCons (tVar 2) (tCons (tMNew P w) tNil)))))
theorem usz_sem (h : spF K cl 3 uszF vs H Q E) : ∃ (N : Nat), N < 2 ^ 20 ∧ ∀ (tr : Sp), (∀ vs H Q E, spZ false P w (ReZ N) 46 vs H Q E → tr vs H Q E) → tUszZ P w tr { nx := D0, rt := Q } (vs.map some) H := by
  obtain ⟨G, ds, h1, h2, h3, h4⟩ := h
  match ds, h3 with
  | [x, y, z], _ =>
    cases x with
    | int n =>
      cases y with
      | int hh =>
        unfold uszF at h4
        dsimp only at h4
        split at h4
        · rename_i hr
          obtain ⟨r1, r2, r3, r4⟩ := hr
          cases hb : boZ z with
          | none =>
            rw [hb] at h4
            exact h4.elim
          | some b =>
            rw [hb] at h4
            obtain ⟨n, rfl⟩ := Int.eq_ofNat_of_zero_le (Int.le_of_lt r1)
            obtain ⟨hh, rfl⟩ := Int.eq_ofNat_of_zero_le r3
            simp only [Dens] at h2
            obtain ⟨v1, q1, rfl, d1, v2, q2, rfl, d2, v3, q3, rfl, d3, rfl⟩ := h2
            have e1 : v1 = .int n := by simpa only [Den] using d1
            have e2 : v2 = .int hh := by simpa only [Den] using d2
            have e3 := den_bo hb d3
            subst e1 e2 e3
            have hbk : ∀ k, b = some k → k ≤ 12 := fun k e => by
              subst e
              unfold boZ at hb
              split at hb
              · cases hb
              · split at hb
                · cases hb
                  omega
                · cases hb
              · cases hb
            refine ⟨n, by omega, fun tr htr => ⟨.int n, rfl, .int hh, rfl, bV b, rfl, fun p φ hp hm => htr _ _ _ _ ⟨n, hh, 20, b, p, [], rfl, ⟨by omega, hbk, 0, by omega, by simp, by simp⟩, fun _ => by omega, by omega, by rw [if_neg (by simp)]; omega, hm, ⟨List.nodup_nil, fun key v e => (nomatch e)⟩, fun H' kvs' x m' _ => ?_⟩⟩⟩
            have hs : Same H H' := fun c o e => x c o (fun z => by rw [z, hp] at e; cases e) (same_upd hp c o e)
            refine h4 _ H' G ⟨hs, Same.refl _, h1.trans hs, fun b hb => .inl hb⟩ ?_
            simp only [Den, Int.toNat_natCast]
            rfl
        · exact h4.elim
      | _ => exact h4.elim
    | _ => exact h4.elim
end
section
variable {P : Program} {wd : World} {K : PySem.W.Frag} {mg : Str → Option Value} {base : Heap} {cl : Nat → ClsT} {x y : Str} {st : Stmt} {N ps : List Str} {k np : Nat} {d : D} {dv : V}
theorem defS_of {sp : Sp} (a : At K mg x st) (S : FnScope N ps (defScope st)) (hb : ∀ f fd, Fun K x x st f fd → Binds K fd ps []) (ln : ∀ vs H Q E, sp vs H Q E → vs.length = ps.length)
    (body : ∀ (f : Addr) (cdv : Value) (A : Around) (outer : List PySem.Env) (s : Shared) (H : Hp) (vs : List V) (Q : VK) (E : XK), Fw.Room k (A.deeper (envOfC x (defScope st) s.heap.objs.size f cdv)) → sp vs H Q E →
      ∃ t, PSs (XX P wd K mg base N x (defScope st) f cdv A outer s H E) (defBody st) t ∧ t { nx := fun _ H' => Q .non H', rt := Q } (start N vs) H) : DefS P wd K mg base (k + 1) x sp := by
  obtain ⟨f, fd, e, Fn⟩ := a.ex
  exact ⟨f, fd, ps, e, Fn.kp, hb f fd Fn, Fun_ok Fn S ln fun cdv A out s H vs Q E hr h => body f cdv A out s H vs Q E hr h⟩
theorem defS_no {sp : Sp} (a : At K mg x st) (hb : ∀ f fd, Fun K x x st f fd → Binds K fd ps []) (no : ∀ vs H Q E, ¬ sp vs H Q E) : DefS P wd K mg base k x sp := by
  obtain ⟨f, fd, e, Fn⟩ := a.ex
  exact ⟨f, fd, ps, e, Fn.kp, hb f fd Fn, ⟨fun vs H Q E h => (no vs H Q E h).elim, fun A outer s H args us vs Q E hr he hb hv h => (no vs H Q E h).elim⟩⟩
theorem kdefS_of {F : List D → Ret} (hd : scV d = some dv) (a : AtK K mg x st y dv) (S : FnScope N ps (defScope st)) (hn : ps.length = np + 1)
    (hb : ∀ (D : Addr) (doc pm : Value) (an : Option Addr) (cdv ct : Value) (us ks : List Value), us.length = np → ks.length = 1 → KwChain D ([y].zip ks) (bindArgs (PySem.W.fnOf x x (defArgs st) (defBody st) (defScope st) .none (.ref D) doc pm an cdv ct) ⟨us, []⟩) (ps.zip (us ++ ks)))
    (hk : ∀ (D : Addr) (doc pm : Value) (an : Option Addr) (cdv ct : Value) (us ws : List Value), us.length = np → ws.length = 1 → bindArgs (PySem.W.fnOf x x (defArgs st) (defBody st) (defScope st) .none (.ref D) doc pm an cdv ct) ⟨us, [y].zip ws⟩ = pure (ps.zip (us ++ ws)))
    (body : ∀ (f : Addr) (cdv : Value) (A : Around) (outer : List PySem.Env) (s : Shared) (H : Hp) (vs : List V) (Q : VK) (E : XK), Fw.Room k (A.deeper (envOfC x (defScope st) s.heap.objs.size f cdv)) → spF K cl (np + 1) F vs H Q E →
      ∃ t, PSs (XX P wd K mg base N x (defScope st) f cdv A outer s H E) (defBody st) t ∧ t { nx := fun _ H' => Q .non H', rt := Q } (start N vs) H) : DefK P wd K mg base cl (k + 1) x np y d F := by
  obtain ⟨f, fd, e, Fn⟩ := a.ex
  refine ⟨f, fd, ps, e, Fn.kp, ⟨dv, hd, ?_⟩, ?_, ?_⟩
  · exact Fn.binds0 np (fun z => nomatch z) (by rw [hn]; rfl) fun D doc pm an cdv ct us ks h1 h2 => hb D doc pm an cdv ct us ks h1 h2
  · obtain ⟨mv, z⟩ := Fn.kbinds0 (ps := ps) np [y] [] (fun us _ ws => us ++ ws) (fun z => nomatch z) (fun q hq => nomatch hq) (fun r1 _ r2 => r1.append r2) fun D doc pm an cdv ct us mv ws h1 h2 h3 => by
      obtain rfl : mv = [] := List.length_eq_zero_iff.mp h2
      exact hk D doc pm an cdv ct us ws h1 h3
    exact ⟨_, z⟩
  · refine FunD_ok Fn S (fun vs H Q E h => ?_) (fun cdv A outer s H vs Q E hr h => ?_)
    · obtain ⟨G, ds, _, h2, h3, _⟩ := h
      rw [h2.length, h3, hn]
    · obtain ⟨t, t1, t2⟩ := body f cdv A outer s H vs Q E hr h
      exact ⟨t, t1.nox, t2⟩
end
end Fw
namespace Fw
open PySem PySem.Spec PyProof.Rows L2
end Fw
namespace Fw
open PySem PySem.Spec PyProof.Rows L2
/-- a class whose __init__ has one keyword-only parameter y, its default d; np: the positional ones behind self -/
structure MkDK (P : Program) (wd : World) (K : PySem.W.Frag) (mg : Str → Option Value) (base : Heap) (cl : Nat → ClsT) (k c : Nat) (x : Str) (np : Nat) (y : Str) (d : D) (F : List D → Option (List D)) : Prop where
  ex : ∃ (f : Addr) (fd : FuncData) (ps : List Str), mg x = some (.ref (cl c).addr) ∧ Mk K (cl c).addr f ∧ (∃ v, scV d = some v ∧ ∃ ds, Vals [v] ds ∧ Binds K fd ps ds) ∧ (∃ g : List Value → List Value → List Value, KBn K fd ps (np + 1) [y] g (fun vs zs => vs ++ zs)) ∧ FnOk P wd K mg base CX0 k f fd ps (spI K cl c (np + 1) F)
theorem MkDK.mono {P wd K mg base cl j k c x np y d F} (h : MkDK P wd K mg base cl j c x np y d F) (hj : j ≤ k) : MkDK P wd K mg base cl k c x np y d F :=
  let ⟨f, fd, ps, a, b, c, e, o⟩ := h.ex
  ⟨f, fd, ps, a, b, c, e, o.mono hj⟩
end Fw
namespace Fw
open PySem PySem.Spec PyProof.Rows L2
end Fw
namespace Fw
open PySem PySem.Spec PyProof.Rows L2
end Fw
namespace Fw
open PySem PySem.Spec PyProof.Rows L2
section
variable {X : Cx} {w : Wd} {e ea eb c tg iter : Expr} {es : List Expr} {f g : Xf} {t : Tf} {pos p : Pos} {ts ts' : List Nat} {F1 F2 : Sf} {x : Str}
theorem Kept.nil {K : PySem.W.Frag} {σ : L2.St} {H G H1 G1 H2 G2 : Hp} {ρ ρ1 : Env} (k : Kept K w σ ts H G ρ H1 G1 ρ1) (g : Grow H1 G1 H2 G2) : Kept K w σ ts H G ρ H2 G2 ρ1 :=
  (k.trans (Kept.go (ts := []) g)).sub fun i hi => (List.mem_append.mp hi).elim id fun z => nomatch z
end
end Fw
namespace Fw
open PySem PySem.Spec PyProof.Rows L2
section
variable {K : PySem.W.Frag} {cl : Nat → ClsT} {G H : Hp}
mutual
theorem OAt.noTp : ∀ {t : OT} {v : V} {fp : List Addr}, OAt K cl H G t v fp → ∀ b ∈ fp, ∀ zs, H b ≠ some (.tup zs)
  | .sh d, v, fp, h, b, hb, zs => by
    simp only [OAt] at h
    rw [h.1] at hb
    cases hb
  | .lst xs, v, fp, h, b, hb, zs => by
    simp only [OAt] at h
    obtain ⟨a, vs, fs, h1, h2, h3, h4⟩ := h
    rw [h3] at hb
    rcases List.mem_cons.mp hb with rfl | hb
    · rw [h2]
      exact fun z => nomatch z
    · exact OAts.noTp h4 b hb zs
  | .dic ks xs, v, fp, h, b, hb, zs => by
    simp only [OAt] at h
    obtain ⟨a, vs, fs, h1, h2, h0, h3, h4⟩ := h
    rw [h3] at hb
    rcases List.mem_cons.mp hb with rfl | hb
    · rw [h2]
      exact fun z => nomatch z
    · exact OAts.noTp h4 b hb zs
  | .obj c xs, v, fp, h, b, hb, zs => by
    simp only [OAt] at h
    obtain ⟨a, dx, vs, fs, h1, h2, h0, h3, h4⟩ := h
    rw [h3] at hb
    rcases List.mem_cons.mp hb with rfl | hb
    · rw [h2]
      exact fun z => nomatch z
    · exact OAts.noTp h4 b hb zs
theorem OAts.noTp : ∀ {ts : List OT} {vs : List V} {fp : List Addr}, OAts K cl H G ts vs fp → ∀ b ∈ fp, ∀ zs, H b ≠ some (.tup zs)
  | [], vs, fp, h, b, hb, zs => by
    simp only [OAts] at h
    rw [h.2] at hb
    cases hb
  | x :: xs, vs, fp, h, b, hb, zs => by
    simp only [OAts] at h
    obtain ⟨v, r, f1, f2, h1, h2, h3, h4⟩ := h
    rw [h2] at hb
    exact (List.mem_append.mp hb).elim (fun z => OAt.noTp h3 b z zs) (fun z => OAts.noTp h4 b z zs)
end
theorem OwOk.noTp {o : Ow} {ho : HO} (h : OwOk K cl G o ho) (zs : List V) : ho ≠ .tup zs := by
  cases o with
  | lst ds =>
    obtain ⟨vs, rfl, _⟩ := h
    exact fun z => nomatch z
  | dic ks ds =>
    obtain ⟨vs, rfl, _⟩ := h
    exact fun z => nomatch z
  | obj c ds =>
    obtain ⟨dx, vs, rfl, _⟩ := h
    exact fun z => nomatch z
end
theorem KM.mem {H : Hp} {kvs : List (List Leaf × V)} {xs : List (List Leaf × Addr × Value)} (r : KM H kvs xs) : ∀ q ∈ xs, ∃ zs, H q.2.1 = some (.tup zs) := by
  induction r with
  | nil => exact fun q hq => nomatch hq
  | @cons p q ps qs h t ih =>
    intro z hz
    rcases List.mem_cons.mp hz with rfl | hz
    · exact ⟨_, h.2.1⟩
    · exact ih z hz
theorem KM.keepK {H H2 : Hp} {kvs : List (List Leaf × V)} {xs : List (List Leaf × Addr × Value)} (r : KM H kvs xs) (hk : ∀ q ∈ xs, ∀ ys, H q.2.1 = some (.tup ys) → H2 q.2.1 = some (.tup ys)) : KM H2 kvs xs := by
  induction r with
  | nil => exact .nil
  | @cons p q ps qs h t ih => exact .cons ⟨h.1, hk q List.mem_cons_self _ h.2.1, h.2.2⟩ (ih fun z hz => hk z (List.mem_cons_of_mem _ hz))
abbrev KyC := Bool → Nat → Nat → Option Nat → Prop
def hu (w : Wd) (G : Hp) : Hp := fun c => (w.H0 c).or (G c)
theorem hu_mono {w : Wd} {G G' : Hp} (s : Same G G') : Same (hu w G) (hu w G') := fun c o h => by
  unfold hu at h ⊢
  cases e : w.H0 c with
  | some x => rw [e] at h; exact h
  | none =>
    rw [e] at h
    exact s c o h
theorem hu_sub {K : PySem.W.Frag} {w : Wd} {σ : L2.St} {H G : Hp} {ρ : Env} (r : Rep K w σ H G ρ) : Same (hu w G) H := fun c o h => by
  unfold hu at h
  cases e : w.H0 c with
  | some x =>
    rw [e] at h
    cases h
    exact r.base.ext c _ e
  | none =>
    rw [e] at h
    exact r.base.sub c o h
/-- the memo in the world's heap -/
structure MemoW (P : Program) (wd : World) (C : KyC) (w : Wd) (G : Hp) : Prop where
  at_ : ∃ kvs, MemoAt P wd (hu w G) w.xa kvs ∧ GoodZ C kvs
  has : w.H0 w.xa ≠ none
  g0 : w.G0 w.xa = none
theorem MemoW.mono {P : Program} {wd : World} {C : KyC} {w : Wd} {G G' : Hp} (m : MemoW P wd C w G) (s : Same G G') : MemoW P wd C w G' := by
  obtain ⟨kvs, h1, h2⟩ := m.at_
  exact ⟨⟨kvs, h1.same (hu_mono s), h2⟩, m.has, m.g0⟩
structure LeW (w0 w : Wd) : Prop where
  cl : w.cl = w0.cl
  g0 : w.G0 = w0.G0
  h0 : Same w0.H0 w.H0
  sf : w.sf = w0.sf
  xa : w0.H0 w.xa = none
section
variable {P : Program} {wd : World} {K : PySem.W.Frag} {C : KyC} {w0 w : Wd} {σ : L2.St} {H H' G : Hp} {ρ : Env}
/-- the memo has changed: the world is told anew -/
theorem rebase (le : LeW w0 w) (r : Rep K w σ H G ρ) (m : MemoW P wd C w G) (x : ExtZ w.xa H H') {kvs : List (List Leaf × V)} (mm : MemoAt P wd H' w.xa kvs) (g : GoodZ C kvs) :
    ∃ w', LeW w0 w' ∧ Rep K w' σ H' G ρ ∧ MemoW P wd C w' G := by
  classical
  obtain ⟨c1, c2, xs, c3, c4⟩ := mm
  have hxa : G w.xa = none := by
    cases e : G w.xa with
    | none => rfl
    | some o =>
      rcases r.base.new w.xa (by rw [e]; exact fun z => nomatch z) with z | z
      · exact absurd m.g0 z
      · exact absurd z m.has
  have hk : ∀ q ∈ xs, ∃ zs, H' q.2.1 = some (.tup zs) := c3.mem
  let H0' : Hp := fun c => if c = w.xa then H' c else if w.H0 c ≠ none then w.H0 c else if (∃ q ∈ xs, q.2.1 = c) ∧ G c = none then H' c else none
  have f1 : H0' w.xa = some (.ext (MObj P wd xs w.xa)) := by
    show (if w.xa = w.xa then H' w.xa else _) = _
    rw [if_pos rfl]
    exact c4
  have f2 : ∀ c, c ≠ w.xa → ∀ o, w.H0 c = some o → H0' c = some o := fun c hc o e => by
    show (if c = w.xa then H' c else if w.H0 c ≠ none then w.H0 c else _) = _
    rw [if_neg hc, if_pos (by rw [e]; exact fun z => nomatch z), e]
  have f3 : ∀ c, H0' c ≠ none → c = w.xa ∨ w.H0 c ≠ none ∨ ((∃ q ∈ xs, q.2.1 = c) ∧ G c = none) := fun c h => by
    by_cases h1 : c = w.xa
    · exact .inl h1
    · by_cases h2 : w.H0 c ≠ none
      · exact .inr (.inl h2)
      · by_cases h3 : (∃ q ∈ xs, q.2.1 = c) ∧ G c = none
        · exact .inr (.inr h3)
        · exfalso
          apply h
          show (if c = w.xa then H' c else if w.H0 c ≠ none then w.H0 c else if (∃ q ∈ xs, q.2.1 = c) ∧ G c = none then H' c else none) = none
          rw [if_neg h1, if_neg h2, if_neg h3]
  have f4 : ∀ c, H0' c ≠ none → H0' c = H' c := fun c h => by
    by_cases h1 : c = w.xa
    · show (if c = w.xa then H' c else _) = _
      rw [if_pos h1]
    · by_cases h2 : w.H0 c ≠ none
      · cases e : w.H0 c with
        | none => exact absurd e h2
        | some o =>
          rw [f2 c h1 o e, x c o h1 (r.base.ext c o e)]
      · show (if c = w.xa then H' c else if w.H0 c ≠ none then w.H0 c else if (∃ q ∈ xs, q.2.1 = c) ∧ G c = none then H' c else none) = _
        rw [if_neg h1, if_neg h2]
        by_cases h3 : (∃ q ∈ xs, q.2.1 = c) ∧ G c = none
        · rw [if_pos h3]
        · exfalso
          apply h
          show (if c = w.xa then H' c else if w.H0 c ≠ none then w.H0 c else if (∃ q ∈ xs, q.2.1 = c) ∧ G c = none then H' c else none) = none
          rw [if_neg h1, if_neg h2, if_neg h3]
  have hG : ∀ c o, G c = some o → H' c = some o := fun c o e => x c o (fun z => by rw [z, hxa] at e; cases e) (r.base.sub c o e)
  have low : ∀ c, w.H0 c = none → c ≠ w.xa → (∀ zs, H' c ≠ some (.tup zs)) → H0' c = none := fun c h1 h2 h3 => by
    cases e : H0' c with
    | none => rfl
    | some o =>
      exfalso
      rcases f3 c (by rw [e]; exact fun z => nomatch z) with z | z | ⟨⟨q, hq, rfl⟩, _⟩
      · exact h2 z
      · exact z h1
      · obtain ⟨zs, hz⟩ := hk q hq
        exact h3 zs hz
  have hne : ∀ c, w.H0 c = none → c ≠ w.xa := fun c h z => m.has (z ▸ h)
  refine ⟨⟨w.cl, w.G0, H0', w.sf, w.wx, w.xa⟩, ⟨le.cl, le.g0, fun c o e => ?_, le.sf, le.xa⟩, ⟨⟨fun c o e => ?_, r.base.gext, hG, fun b hb => ?_⟩, r.len, r.sh, fun i o e => ?_, r.slf, r.dis, ?_, r.xc⟩, ⟨⟨kvs, ⟨c1, c2, xs, c3.keepK fun q hq ys e => ?_, ?_⟩, g⟩, ?_, m.g0⟩⟩
  · exact f2 c (fun z => by rw [z, le.xa] at e; cases e) o (le.h0 c o e)
  · have e : H0' c = some o := e
    have := f4 c (by rw [e]; exact fun z => nomatch z)
    rw [← this]
    exact e
  · rcases r.base.new b hb with z | z
    · exact .inl z
    · right
      cases e : H0' b with
      | none => exact e
      | some o =>
        exfalso
        rcases f3 b (by rw [e]; exact fun z => nomatch z) with q | q | q
        · rw [q] at hb
          exact hb hxa
        · exact q z
        · exact hb q.2
  · obtain ⟨a, ho, e1, e2, e3, e4, e5⟩ := r.own i o e
    have ha := hne a e4
    have e2' := x a ho ha e2
    exact ⟨a, ho, e1, e2', e3, low a e4 ha (fun zs z => by rw [e2'] at z; exact e5.noTp zs (Option.some.inj z)), e5⟩
  · obtain ⟨fp, q⟩ := r.tre
    refine ⟨fp, fun i k t e => ?_⟩
    obtain ⟨v, k1, k2, k3, k4, k5⟩ := q i k t e
    have hsame : ∀ b ∈ fp i, H' b = H b := fun b hb => by
      obtain ⟨_, m2, _, _⟩ := k5 b hb
      cases eb : H b with
      | none => exact absurd eb (k2.at b hb)
      | some o => exact x b o (hne b m2) eb
    refine ⟨v, k1, k2.move (Same.refl _) hsame, k3, k4, fun b hb => ?_⟩
    obtain ⟨m1, m2, m3, m4⟩ := k5 b hb
    exact ⟨m1, low b m2 (hne b m2) (fun zs z => by rw [hsame b hb] at z; exact OAt.noTp k2 b hb zs z), m3, m4⟩
  · have hqx : q.2.1 ≠ w.xa := fun z => by
      rw [z, c4] at e
      cases e
    show (H0' q.2.1).or (G q.2.1) = _
    cases e0 : H0' q.2.1 with
    | some o =>
      have := f4 q.2.1 (by rw [e0]; exact fun z => nomatch z)
      rw [e0, e] at this
      exact this
    | none =>
      show G q.2.1 = _
      cases e1 : G q.2.1 with
      | some o =>
        have := hG _ _ e1
        rw [e] at this
        exact this.symm
      | none =>
        exfalso
        have : H0' q.2.1 = H' q.2.1 := by
          by_cases h2 : w.H0 q.2.1 ≠ none
          · cases e4 : w.H0 q.2.1 with
            | none => exact absurd e4 h2
            | some o => rw [f2 _ hqx o e4] at e0; cases e0
          · show (if q.2.1 = w.xa then H' q.2.1 else if w.H0 q.2.1 ≠ none then w.H0 q.2.1 else if (∃ q' ∈ xs, q'.2.1 = q.2.1) ∧ G q.2.1 = none then H' q.2.1 else none) = _
            rw [if_neg hqx, if_neg h2, if_pos ⟨⟨q, hq, rfl⟩, e1⟩]
        rw [e0, e] at this
        cases this
  · show (H0' w.xa).or (G w.xa) = _
    rw [f1]
    rfl
  · show H0' w.xa ≠ none
    rw [f1]
    exact fun z => nomatch z
end
def postM (P : Program) (wd : World) (K : PySem.W.Frag) (C : KyC) (w0 : Wd) (G0 : Hp) (Ds : Ends) : Out → Prop
  | .nx ρ => ∀ w σ H G, LeW w0 w → Same G0 G → Rep K w σ H G ρ → MemoW P wd C w G → Ds.nx σ H
  | .bk ρ => ∀ w σ H G, LeW w0 w → Same G0 G → Rep K w σ H G ρ → MemoW P wd C w G → Ds.bk σ H
  | .ct ρ => ∀ w σ H G, LeW w0 w → Same G0 G → Rep K w σ H G ρ → MemoW P wd C w G → Ds.ct σ H
  | .rt d ρ => ∀ w v σ H G, LeW w0 w → Same G0 G → Rep K w σ H G ρ → MemoW P wd C w G → Den K w.cl G d v → Ds.rt v H
  | .rf o ρ => ∀ w a ho σ H G, LeW w0 w → Same G0 G → Rep K w σ H G ρ → MemoW P wd C w G → (∀ (j : Nat) (o' : Ow), ρ[j]? = some (.own o') → σ[j]? ≠ some (some (.ref a))) → w.H0 a = none → H a = some ho → G a = none → OwOk K w.cl G o ho → Ds.rt (.ref a) H
  | .ex _ _ _ => False
  | .stuck => False
def tSM (P : Program) (wd : World) (K : PySem.W.Frag) (C : KyC) (w0 : Wd) (F : Sf) : TS := fun Ds σ H => ∃ w ρ G, LeW w0 w ∧ Rep K w σ H G ρ ∧ MemoW P wd C w G ∧ postM P wd K C w0 G Ds (F ρ)
def tPM (P : Program) (wd : World) (K : PySem.W.Frag) (C : KyC) (w0 : Wd) (f : Ef) : TE := fun σ H Q => ∃ w ρ G d, LeW w0 w ∧ Rep K w σ H G ρ ∧ MemoW P wd C w G ∧ f ρ = some d ∧ ∀ w' v H' G', LeW w0 w' → Same G G' → Rep K w' σ H' G' ρ → MemoW P wd C w' G' → Den K w'.cl G' d v → Q v H'
def tTM (P : Program) (wd : World) (K : PySem.W.Frag) (C : KyC) (w0 : Wd) (f : Tf) : TT := fun σ H Q => ∃ w ρ G b, LeW w0 w ∧ Rep K w σ H G ρ ∧ MemoW P wd C w G ∧ f ρ = some b ∧ ∀ w' H' G', LeW w0 w' → Same G G' → Rep K w' σ H' G' ρ → MemoW P wd C w' G' → Q b H'
theorem postM.mono {P : Program} {wd : World} {K : PySem.W.Frag} {C : KyC} {w0 : Wd} {G G' : Hp} {Ds : Ends} (h : Same G G') : ∀ {o : Out}, postM P wd K C w0 G Ds o → postM P wd K C w0 G' Ds o
  | .nx _, q => fun w σ H G2 le s => q w σ H G2 le (h.trans s)
  | .bk _, q => fun w σ H G2 le s => q w σ H G2 le (h.trans s)
  | .ct _, q => fun w σ H G2 le s => q w σ H G2 le (h.trans s)
  | .rt _ _, q => fun w v σ H G2 le s => q w v σ H G2 le (h.trans s)
  | .rf _ _, q => fun w a ho σ H G2 le s => q w a ho σ H G2 le (h.trans s)
  | .ex _ _ _, q => q.elim
  | .stuck, q => q.elim
theorem postM.post {P : Program} {wd : World} {K : PySem.W.Frag} {C : KyC} {w0 w : Wd} {G : Hp} {Ds : Ends} (le : LeW w0 w) (m : MemoW P wd C w G) : ∀ {o : Out}, postM P wd K C w0 G Ds o → post K w G Ds o
  | .nx _, q => fun σ H G2 s r => q w σ H G2 le s r (m.mono s)
  | .bk _, q => fun σ H G2 s r => q w σ H G2 le s r (m.mono s)
  | .ct _, q => fun σ H G2 s r => q w σ H G2 le s r (m.mono s)
  | .rt _ _, q => fun v σ H G2 s r z => q w v σ H G2 le s r (m.mono s) z
  | .rf _ _, q => fun a ho σ H G2 s r => q w a ho σ H G2 le s r (m.mono s)
  | .ex _ _ _, q => q.elim
  | .stuck, q => q.elim
section
variable {X : Cx} {C : KyC} {w0 : Wd} {s : Stmt} {ss : List Stmt} {e ea eb c tg iter : Expr} {f g : Ef} {t : Tf} {fs : Af} {F F1 F2 : Sf} {x : Str} {pos p : Pos}
theorem vm_lift (h : ∀ w, LeW w0 w → VS w X s F) : PS X s (tSM X.prog X.w X.K C w0 F) := ⟨fun pins s σ H Ds I ⟨w, ρ, G, le, r, m, q⟩ => (h w le).run pins s σ H Ds I ⟨ρ, G, r, postM.post le m q⟩⟩
theorem vmm_nil : PSs X [] (tSM X.prog X.w X.K C w0 sNext) := PSs.imp pss_nil fun Ds σ H ⟨w, ρ, G, le, r, m, q⟩ => q w σ H G le (Same.refl _) r m
theorem vmm_cons (h1 : PS X s (tSM X.prog X.w X.K C w0 F1)) (h2 : PSs X ss (tSM X.prog X.w X.K C w0 F2)) : PSs X (s :: ss) (tSM X.prog X.w X.K C w0 (sSeq F1 F2)) := PSs.imp (pss_cons h1 h2) fun Ds σ H ⟨w, ρ, G, le, r, m, q⟩ => by
  refine ⟨w, ρ, G, le, r, m, ?_⟩
  unfold sSeq at q
  cases e : F1 ρ with
  | nx ρ1 =>
    rw [e] at q
    exact fun w' σ' H' G' le' s r' m' => ⟨w', ρ1, G', le', r', m', postM.mono s q⟩
  | bk ρ1 => rw [e] at q; exact q
  | ct ρ1 => rw [e] at q; exact q
  | rt d ρ1 => rw [e] at q; exact q
  | rf o ρ1 => rw [e] at q; exact q
  | ex c ds ρ1 => rw [e] at q; exact q
  | stuck => rw [e] at q; exact q
theorem vmm_one (h1 : PS X s (tSM X.prog X.w X.K C w0 F1)) : PSs X [s] (tSM X.prog X.w X.K C w0 F1) := pss_one h1
theorem pem_lift (h : ∀ w, LeW w0 w → VE w X e f) : PE X e (tPM X.prog X.w X.K C w0 f) := ⟨fun pins s σ H Q I ⟨w, ρ, G, d, le, r, m, hf, q⟩ => (h w le).run pins s σ H Q I ⟨ρ, G, d, r, hf, fun v H' G' g z => q w v H' G' le g.gg (r.go g) (m.mono g.gg) z⟩⟩
theorem ptm_lift (h : ∀ w, LeW w0 w → VT w X c t) : PT X c (tTM X.prog X.w X.K C w0 t) := ⟨fun pins s σ H Q I ⟨w, ρ, G, b, le, r, m, hf, q⟩ => (h w le).run pins s σ H Q I ⟨ρ, G, b, r, hf, fun H' G' g => q w H' G' le g.gg (r.go g) (m.mono g.gg)⟩⟩
theorem vm_if {a b : List Stmt} (hc : PT X c (tTM X.prog X.w X.K C w0 t)) (ha : PSs X a (tSM X.prog X.w X.K C w0 F1)) (hb : PSs X b (tSM X.prog X.w X.K C w0 F2)) : PS X (.If c a b pos) (tSM X.prog X.w X.K C w0 (sIf t F1 F2)) := PS.imp (ps_if hc ha hb) fun Ds σ H ⟨w, ρ, G, le, r, m, q⟩ => by
  unfold sIf at q
  cases e1 : t ρ with
  | none =>
    rw [e1] at q
    exact q.elim
  | some b =>
    rw [e1] at q
    refine ⟨w, ρ, G, b, le, r, m, e1, fun w' H1 G1 le1 s1 r1 m1 => ?_⟩
    cases b with
    | true => exact iteT ⟨w', ρ, G1, le1, r1, m1, postM.mono s1 q⟩
    | false => exact iteF ⟨w', ρ, G1, le1, r1, m1, postM.mono s1 q⟩
theorem vm_set {i : Nat} {pos' : Pos} (hN : X.N.Nodup) (hi : X.N[i]? = some x) (hx : Loc X.env.scope x) (he : PE X e (tPM X.prog X.w X.K C w0 f)) (hs : swapsWith e (some (.Name x pos')) pos.line X.env = pure false := by rfl) (hf : X.fn x = true ∨ X.env.scope.names.lookup x = some .local := by first | exact .inl rfl | exact .inr rfl | assumption) :
    PS X (.Assign [.Name x pos'] e pos) (tSM X.prog X.w X.K C w0 (sSet i f)) := PS.imp (ps_set hN hi hx he hs hf) fun Ds σ H ⟨w, ρ, G, le, r, m, q⟩ => by
  unfold sSet at q
  cases e1 : f ρ with
  | none =>
    rw [e1] at q
    exact q.elim
  | some d =>
    rw [e1] at q
    exact ⟨w, ρ, G, d, le, r, m, e1, fun w' v H1 G1 le1 s1 r1 m1 z => q w' _ H1 G1 le1 s1 (r1.setSh i z) m1⟩
end
/-- no branching number 0 -/
def posC (C : KyC) : KyC := fun r m h b => C r m h b ∧ ∀ k, b = some k → 1 ≤ k
theorem clz_pos {C : KyC} (hC : Clz C) : Clz (posC C) := by
  refine ⟨fun m h b hm ⟨c, p⟩ => ?_, fun m h b hm ⟨c, p⟩ hf => ⟨hC.t1 m h b hm c hf, fun k e => nomatch e⟩, fun m h k hm ⟨c, p⟩ hf => ?_, ?_⟩
  · obtain ⟨h1, h2, h3⟩ := hC.r1 m h b hm c
    exact ⟨⟨h1, p⟩, ⟨h2, p⟩, ⟨h3, p⟩⟩
  · obtain ⟨h1, h2⟩ := hC.t2 m h k hm c hf
    exact ⟨⟨h1, p⟩, fun hk => ⟨h2 hk, fun k' e => by cases e; omega⟩⟩
  · obtain ⟨L, h1, h2⟩ := hC.fin
    exact ⟨L, h1, fun r m h b hm c => h2 r m h b hm c.1⟩
def pos0 : D → Bool
  | .int k => decide (1 ≤ k)
  | _ => true
def szD (n h b : D) : Option D := if pos0 b = true then toD (uszF [n, h, b]) else none
theorem pos_bo {x : D} {b : Option Nat} (h : boZ x = some b) (hp : pos0 x = true) : ∀ k, b = some k → 1 ≤ k := fun k e => by
  subst e
  unfold boZ at h
  split at h
  · cases h
  · split at h
    · cases h
      have hp := of_decide_eq_true hp
      omega
    · cases h
  · cases h
theorem szD_some {n h b d : D} (e : szD n h b = some d) : ∃ (n' h' : Nat) (b' : Option Nat), n = .int n' ∧ h = .int h' ∧ boZ b = some b' ∧ 0 < n' ∧ n' < 1048576 ∧ h' ≤ 12 ∧ (∀ k, b' = some k → k ≤ 12) ∧ (∀ k, b' = some k → 1 ≤ k) ∧ d = .int ((treeZ h' n' b' : Nat) : Int) := by
  unfold szD at e
  split at e
  case isFalse => cases e
  rename_i hps
  cases n with
  | int n =>
    cases h with
    | int h =>
      unfold uszF at e
      dsimp only at e
      split at e
      · rename_i hr
        obtain ⟨r1, r2, r3, r4⟩ := hr
        cases hb : boZ b with
        | none =>
          rw [hb] at e
          cases e
        | some b' =>
          rw [hb] at e
          cases e
          obtain ⟨n, rfl⟩ := Int.eq_ofNat_of_zero_le (Int.le_of_lt r1)
          obtain ⟨h, rfl⟩ := Int.eq_ofNat_of_zero_le r3
          refine ⟨n, h, b', rfl, rfl, rfl, by omega, by omega, by omega, fun k e => ?_, pos_bo hb hps, by simp⟩
          subst e
          unfold boZ at hb
          split at hb
          · cases hb
          · split at hb
            · cases hb
              omega
            · cases hb
          · cases hb
      · cases e
    | _ => cases e
  | _ => cases e
def cX : Cell → Cell
  | .xc => .no
  | c => c
/-- without the memo's place -/
def clX (ρ : Env) : Env := ρ.map cX
theorem clX_get {ρ : Env} {j : Nat} {c : Cell} (h : (clX ρ)[j]? = some c) (hc : c ≠ .no) : ρ[j]? = some c ∧ c ≠ .xc := by
  unfold clX at h
  rw [List.getElem?_map] at h
  cases e : ρ[j]? with
  | none => rw [e] at h; cases h
  | some c0 =>
    rw [e] at h
    have h : cX c0 = c := Option.some.inj h
    subst h
    cases c0 with
    | xc => exact absurd rfl hc
    | no => exact absurd rfl hc
    | sh d => exact ⟨rfl, fun z => nomatch z⟩
    | own o => exact ⟨rfl, fun z => nomatch z⟩
    | tre k t => exact ⟨rfl, fun z => nomatch z⟩
theorem Rep.clX {K : PySem.W.Frag} {w : Wd} {σ : L2.St} {H G : Hp} {ρ : Env} (r : Rep K w σ H G ρ) : Rep K w σ H G (clX ρ) := by
  refine ⟨r.base, by unfold Fw.clX; rw [List.length_map]; exact r.len, fun j d e => r.sh j d (clX_get e (fun z => nomatch z)).1, fun j o e => r.own j o (clX_get e (fun z => nomatch z)).1, fun j c ds e => r.slf j c ds (clX_get e (fun z => nomatch z)).1,
    fun i j ds es a e1 e2 e3 e4 => r.dis i j ds es a (clX_get e1 (fun z => nomatch z)).1 (clX_get e2 (fun z => nomatch z)).1 e3 e4, ?_, fun j e => absurd rfl (clX_get e (fun z => nomatch z)).2⟩
  obtain ⟨fp, q⟩ := r.tre
  refine ⟨fp, fun i k t e => ?_⟩
  obtain ⟨v, k1, k2, k3, k4, k5⟩ := q i k t (clX_get e (fun z => nomatch z)).1
  refine ⟨v, k1, k2, k3, k4, fun b hb => ?_⟩
  obtain ⟨m1, m2, m3, m4⟩ := k5 b hb
  exact ⟨m1, m2, fun j o hj => m3 j o (clX_get hj (fun z => nomatch z)).1, fun j k' t' hj hb' => m4 j k' t' (clX_get hj (fun z => nomatch z)).1 hb'⟩
theorem clX_no {ρ : Env} (j : Nat) : (clX ρ)[j]? ≠ some .xc := fun e => (clX_get e (fun z => nomatch z)).2 rfl
def clO : Out → Out
  | .nx ρ => .nx (clX ρ)
  | .bk ρ => .bk (clX ρ)
  | .ct ρ => .ct (clX ρ)
  | .rt d ρ => .rt d (clX ρ)
  | .rf o ρ => .rf o (clX ρ)
  | .ex _ _ _ => .stuck
  | .stuck => .stuck
def sMemo (i : Nat) (F : Sf) : Sf := fun ρ => gX (noX ρ && decide (i < ρ.length)) (clO (F (ρ.set i .xc)))
theorem clO_postM {P : Program} {wd : World} {K : PySem.W.Frag} {C : KyC} {w : Wd} {He G G1 : Hp} {Ds : Ends} (b : Base w He G) : ∀ {o : Out}, post K w G1 Ds (clO o) → postM P wd K C w G1 Ds o := by
  have b0 : Base w He w.G0 := ⟨b.ext, Same.refl _, b.gext.trans b.sub, fun c hc => .inl hc⟩
  have back : ∀ {w' : Wd} {σ : L2.St} {H G : Hp} {ρ : Env}, LeW w w' → Rep K w' σ H G ρ → Rep K w σ H G (clX ρ) := fun le r => r.clX.older b0 le.h0 le.cl le.sf le.g0 clX_no
  intro o h
  cases o with
  | nx ρ => exact fun w' σ H G le s r m => h σ H G s (back le r)
  | bk ρ => exact fun w' σ H G le s r m => h σ H G s (back le r)
  | ct ρ => exact fun w' σ H G le s r m => h σ H G s (back le r)
  | rt d ρ => exact fun w' v σ H G le s r m z => h v σ H G s (back le r) (by rw [← le.cl]; exact z)
  | rf ow ρ => exact fun w' a ho σ H G le s r m h1 h2 h3 h4 h5 => h a ho σ H G s (back le r) (fun j o' hj => h1 j o' (clX_get hj fun z => nomatch z).1) (le.h0.free h2) h3 h4 (by rw [← le.cl]; exact h5)
  | ex c zs ρ => exact h.elim
  | stuck => exact h.elim
theorem vss_memo {X : Cx} {w : Wd} {C : KyC} {i : Nat} {x : Str} {rest : List Stmt} {F : Sf} {p1 dp pos : Pos} (hN : X.N.Nodup) (hi : X.N[i]? = some x) (hx : Loc X.env.scope x) (h : PSs X rest (tSM X.prog X.w X.K C w F))
    (hs : swapsWith (.Dict [] [] dp) (some (.Name x p1)) pos.line X.env = pure false := by rfl) (hf : X.fn x = true ∨ X.env.scope.names.lookup x = some .local := by first | exact .inl rfl | exact .inr rfl | assumption) :
    VSs w X (.Assign [.Name x p1] (.Dict [] [] dp) pos :: rest) (sMemo i F) := PSs.imp (pss_cons (ps_set hN hi hx pe_mnew hs hf) h) fun Ds σ H ⟨ρ, G, r, q⟩ => by
  obtain ⟨hb, q⟩ := gX_post q
  rw [Bool.and_eq_true, decide_eq_true_eq] at hb
  intro p φ hp hm
  have hgp : G p = none := r.base.sub.free hp
  have h0p : w.H0 p = none := r.base.ext.free hp
  have hnx := noX_ok hb.1
  refine ⟨⟨w.cl, w.G0, upd w.H0 p (.ext φ), w.sf, w.wx, p⟩, ρ.set i .xc, G, ⟨rfl, rfl, same_upd h0p, rfl, h0p⟩, ?_, ⟨⟨[], ?_, ⟨List.nodup_nil, fun key v e => by cases e⟩⟩, ?_, ?_⟩, clO_postM r.base q⟩
  · have hg : ∀ {c : Cell} {j : Nat}, (ρ.set i .xc)[j]? = some c → c ≠ .xc → j ≠ i ∧ ρ[j]? = some c := fun {c j} e hc => by
      by_cases hji : j = i
      · subst hji
        rw [List.getElem?_set_self hb.2] at e
        cases e
        exact absurd rfl hc
      · rw [List.getElem?_set_ne (fun z => hji z.symm)] at e
        exact ⟨hji, e⟩
    have hσ : ∀ {j : Nat}, j ≠ i → (σ.set i (some (V.ref p)))[j]? = σ[j]? := fun hj => List.getElem?_set_ne (fun z => hj z.symm)
    refine ⟨⟨fun c o e => ?_, r.base.gext, r.base.sub.trans (same_upd hp), fun b hb' => ?_⟩, by rw [List.length_set, List.length_set]; exact r.len, fun j d e => ?_, fun j o e => ?_, fun j c ds e => ?_, fun j k ds es a e1 e2 e3 e4 => ?_, ?_, fun j e => ?_⟩
    · by_cases hc : c = p
      · subst hc
        have e : upd w.H0 c (.ext φ) c = some o := e
        rw [upd_same] at e ⊢
        exact e
      · have e : upd w.H0 p (.ext φ) c = some o := e
        rw [upd_ne hc] at e ⊢
        exact r.base.ext c o e
    · rcases r.base.new b hb' with z | z
      · exact .inl z
      · right
        show upd w.H0 p (.ext φ) b = none
        rw [upd_ne (fun q => by rw [q] at hb'; exact hb' hgp)]
        exact z
    · obtain ⟨h1, h2⟩ := hg e (fun z => nomatch z)
      rw [hσ h1]
      exact r.sh j d h2
    · obtain ⟨h1, h2⟩ := hg e (fun z => nomatch z)
      obtain ⟨a, ho, k1, k2, k3, k4, k5⟩ := r.own j o h2
      have hap : a ≠ p := fun z => by rw [z, hp] at k2; cases k2
      exact ⟨a, ho, by rw [hσ h1]; exact k1, by rw [upd_ne hap]; exact k2, k3, (by show upd w.H0 p (.ext φ) a = none; rw [upd_ne hap]; exact k4), k5⟩
    · obtain ⟨h1, h2⟩ := hg e (fun z => nomatch z)
      rw [hσ h1]
      exact r.slf j c ds h2
    · obtain ⟨h1, h2⟩ := hg e1 (fun z => nomatch z)
      obtain ⟨h3, h4⟩ := hg e2 (fun z => nomatch z)
      rw [hσ h1] at e3
      rw [hσ h3] at e4
      exact r.dis j k ds es a h2 h4 e3 e4
    · obtain ⟨fp, tq⟩ := r.tre
      refine ⟨fp, fun j k t e => ?_⟩
      obtain ⟨h1, h2⟩ := hg e (fun z => nomatch z)
      obtain ⟨v, k1, k2, k3, k4, k5⟩ := tq j k t h2
      have hnp : ∀ b ∈ fp j, b ≠ p := fun b hb z => k2.at b hb (by rw [z]; exact hp)
      refine ⟨v, by rw [hσ h1]; exact k1, k2.move (Same.refl _) fun b hb => upd_ne (hnp b hb), k3, k4, fun b hb => ?_⟩
      obtain ⟨m1, m2, m3, m4⟩ := k5 b hb
      refine ⟨m1, (by show upd w.H0 p (.ext φ) b = none; rw [upd_ne (hnp b hb)]; exact m2), fun j' o hj' => ?_, fun j' k' t' hj' hb2 => ?_⟩
      · obtain ⟨n1, n2⟩ := hg hj' (fun z => nomatch z)
        rw [hσ n1]
        exact m3 j' o n2
      · obtain ⟨n1, n2⟩ := hg hj' (fun z => nomatch z)
        exact m4 j' k' t' n2 hb2
    · by_cases hji : j = i
      · subst hji
        rw [List.getElem?_set_self (by rw [r.len]; exact hb.2)]
      · rw [List.getElem?_set_ne (fun z => hji z.symm)] at e
        exact absurd e (hnx j)
  · obtain ⟨c1, c2, xs, c3, c4⟩ := hm
    cases c3
    refine ⟨c1, c2, [], .nil, ?_⟩
    show (upd w.H0 p (.ext φ) p).or (G p) = _
    rw [upd_same] at c4 ⊢
    rw [c4]
    rfl
  · show upd w.H0 p (.ext φ) p ≠ none
    rw [upd_same]
    exact fun z => nomatch z
  · exact r.base.gext.free hgp
end Fw
namespace Fw
open PySem PySem.Spec PyProof.Rows L2
abbrev tFdZ (ta tb : TE) : TE := tOp (rI CDiv fun i j => .int (i / j)) ta tb
def tRowL (P : Program) (w : World) (ro tr : Sp) : TS :=
  tSeq (tIfS (tB (tEqI (tVar 0) (tC (.int 0)))) (tRet (tC (.int 0))) tNext)
  (tSeq (tKeyZ "row" 4)
  (tSeq (tIfS (tB (tMNot P w (tVar 4) (tVar 3)))
    (tSeq (tAsg (tAdd (tCall ro [] E0 (tCons (tFdZ (tVar 0) (tC (.int 2))) (tCons (tVar 1) (tCons (tVar 2) (tCons (tVar 3) tNil)))))
        (tCall ro [] E0 (tCons (tSub (tFdZ (tAdd (tVar 0) (tC (.int 1))) (tC (.int 2))) (tC (.int 1))) (tCons (tVar 1) (tCons (tVar 2) (tCons (tVar 3) tNil)))))) (gName 5))
      (sMPut P w (tVar 3) (tVar 4) (tAdd (tVar 5) (tCall tr [] E0 (tCons (tVar 0) (tCons (tVar 1) (tCons (tVar 2) (tCons (tVar 3) tNil)))))))) tNext)
  (tRet (tMGet P w (tVar 3) (tVar 4)))))
def tTreeL (P : Program) (w : World) (isf ro tr : Sp) : TS :=
  tSeq (tIfS (tB (tEqI (tVar 1) (tC (.int 0)))) (tRet (tC (.int 1))) tNext)
  (tSeq (tKeyZ "tree" 4)
  (tSeq (tIfS (tB (tMNot P w (tVar 4) (tVar 3)))
    (tIfS (tB (tCall isf [] E0 (tCons (tVar 0) (tCons (tVar 1) (tCons (tVar 2) tNil)))))
        (sMPut P w (tVar 3) (tVar 4) (tCall ro [] E0 (tCons (tVar 0) (tCons (tSub (tVar 1) (tC (.int 1))) (tCons (tC .non) (tCons (tVar 3) tNil))))))
        (tIfS (tB (tEqI (tVar 2) (tC (.int 1))))
          (sMPut P w (tVar 3) (tVar 4) (tCall tr [] E0 (tCons (tVar 0) (tCons (tSub (tVar 1) (tC (.int 1))) (tCons (tC (.int 1)) (tCons (tVar 3) tNil))))))
          (tSeq (tAsg (tCall ro [] E0 (tCons (tSub (tVar 0) (tC (.int 1))) (tCons (tSub (tVar 1) (tC (.int 1))) (tCons (tSub (tVar 2) (tC (.int 1))) (tCons (tVar 3) tNil))))) (gName 5))
            (sMPut P w (tVar 3) (tVar 4) (tAdd (tAdd (tVar 5) (tCall tr [] E0 (tCons (tVar 0) (tCons (tSub (tVar 1) (tC (.int 1))) (tCons (tVar 2) (tCons (tVar 3) tNil)))))) (tVar 5)))))) tNext)
  (tRet (tMGet P w (tVar 3) (tVar 4)))))
section
variable {P : Program} {w : World} {K : PySem.W.Frag} {cl : Nat → ClsT} {C : Bool → Nat → Nat → Option Nat → Prop} {k : Nat} {Fi : List D → Ret} {vs : List V} {H : Hp} {Q : VK} {E : XK} {D0 : L2.St → Hp → Prop}
theorem cdiv2 (i : Int) : CDiv i 2 := by
  unfold CDiv
  decide
theorem row_semL (hC : Clz C)
    {m h d : Nat} {b : Option Nat} {a : Addr} {kvs : List (List Leaf × V)} (hc : C true m h b) (hd : m < 2 ^ d) (hk : 2 * h + 1 + d < k + 1) (mem : MemoAt P w H a kvs) (g : GoodZ C kvs)
    (q : ∀ H' kvs', ExtZ a H H' → MemoAt P w H' a kvs' → GoodZ C kvs' → Q (.int ((sz true h b m : Nat) : Int)) H') :
    tRowL P w (spZ true P w C k) (spZ false P w C k) { nx := D0, rt := Q } (stZ m h b a [none, none]) H := by
  refine ⟨.int m, rfl, (m : Int), 0, rfl, rfl, decide ((m : Int) = 0), rfl, ?_⟩
  by_cases hm : m = 0
  · subst hm
    dsimp only
    rw [if_pos (by rfl)]
    have e : ((sz true h b 0 : Nat) : Int) = 0 := by
      unfold sz
      rw [if_pos rfl, rowZ_zero]
      rfl
    rw [e] at q
    exact q H kvs (ExtZ.refl a H) mem g
  dsimp only
  rw [if_neg (by rw [decide_eq_false (by omega)]; simp)]
  have hm0 : 0 < m := by omega
  have hd1 : 1 ≤ d := by
    apply Classical.byContradiction
    intro z
    rw [show d = 0 by omega] at hd
    omega
  obtain ⟨d, rfl⟩ : ∃ e, d = e + 1 := ⟨d - 1, by omega⟩
  have hp2 : 2 ^ (d + 1) = 2 * 2 ^ d := by rw [Nat.pow_succ]; omega
  obtain ⟨c1, c2, c3⟩ := hC.r1 m h b hm0 hc
  refine ⟨.int m, rfl, .int h, rfl, bV b, rfl, (by show 4 ≤ sizeLine; decide), fun p hp => ?_⟩
  have eb : L2.upd H p (.tup [.str "row", .int m, .int h, bV b]) p = some (.tup ((kyZ true m h b).map lV)) := by
    rw [upd_same, ky_vs]
    rfl
  have s1 : Same H (L2.upd H p (.tup [.str "row", .int m, .int h, bV b])) := same_upd hp
  have m1 := mem.same s1
  generalize hH1 : L2.upd H p (.tup [.str "row", .int m, .int h, bV b]) = H1 at eb s1 m1
  have hpa : p ≠ a := mem.nf hp
  refine ⟨.ref p, rfl, .ref a, rfl, a, p, kyZ true m h b, kvs, rfl, rfl, m1, eb, (!(valV kvs (kyZ true m h b)).isSome), rfl, ?_⟩
  cases hv : valV kvs (kyZ true m h b) with
  | some v =>
    dsimp only
    rw [if_neg (by simp)]
    have := g.at hv
    subst this
    exact ⟨.ref a, rfl, .ref p, rfl, a, p, kyZ true m h b, kvs, _, rfl, rfl, m1, eb, hv, q H1 kvs (ExtZ.same s1) m1 g⟩
  | none =>
    dsimp only
    rw [if_pos (by rfl)]
    have e1 : (m : Int) / 2 = ((m / 2 : Nat) : Int) := by omega
    have e2 : ((m : Int) + 1) / 2 - 1 = (((m + 1) / 2 - 1 : Nat) : Int) := by omega
    refine ⟨.int m, rfl, (m : Int), 2, rfl, rfl, cdiv2 _, .int h, rfl, bV b, rfl, .ref a, rfl, ?_⟩
    refine ⟨m / 2, h, d, b, a, kvs, (by show [V.int ((m : Int) / 2), V.int h, bV b, V.ref a] = _; rw [e1]), c1, (fun z => nomatch z), by omega, by rw [if_pos rfl]; omega, m1, g, fun H3 kvs3 x3 m3 g3 => ?_⟩
    have eb3 := x3 p _ hpa eb
    refine ⟨.int m, rfl, (m : Int), 1, rfl, rfl, ((m : Int) + 1), 2, rfl, rfl, cdiv2 _, (((m : Int) + 1) / 2), 1, rfl, rfl, .int h, rfl, bV b, rfl, .ref a, rfl, ?_⟩
    refine ⟨(m + 1) / 2 - 1, h, d, b, a, kvs3, (by show [V.int (((m : Int) + 1) / 2 - 1), V.int h, bV b, V.ref a] = _; rw [e2]), c2, (fun z => nomatch z), by omega, by rw [if_pos rfl]; omega, m3, g3, fun H5 kvs5 x5 m5 g5 => ?_⟩
    have eb5 := x5 p _ hpa eb3
    refine ⟨_, _, rfl, rfl, ?_⟩
    refine ⟨_, rfl, .int m, rfl, .int h, rfl, bV b, rfl, .ref a, rfl, ?_⟩
    refine ⟨m, h, d + 1, b, a, kvs5, rfl, c3, (fun _ => hm0), hd, by rw [if_neg (by simp)]; omega, m5, g5, fun H6 kvs6 x6 m6 g6 => ?_⟩
    have eb6 := x6 p _ hpa eb5
    refine ⟨_, _, rfl, rfl, .ref a, rfl, .ref p, rfl, a, p, kyZ true m h b, kvs6, rfl, rfl, m6, eb6, g6.few hC, fun φ m7 => ?_⟩
    have hsz : (((sz true h b (m / 2) : Nat) : Int) + ((sz true h b ((m + 1) / 2 - 1) : Nat) : Int) + ((sz false h b m : Nat) : Int)) = ((sz true h b m : Nat) : Int) := by
      have e : sz true h b m = sz true h b (m / 2) + sz false h b m + sz true h b ((m + 1) / 2 - 1) := by
        unfold sz
        rw [if_pos rfl, if_pos rfl, if_pos rfl, if_neg (by simp)]
        exact rowZ_pos _ hm0
      omega
    rw [hsz] at m7
    have g7 := g6.put hm0 hc
    have hx : ExtZ a H (L2.upd H6 a (.ext φ)) := (((ExtZ.same s1).trans x3).trans x5).trans (x6.trans ExtZ.upd)
    have eb7 : L2.upd H6 a (.ext φ) p = some (.tup ((kyZ true m h b).map lV)) := by
      rw [upd_ne hpa]
      exact eb6
    exact ⟨.ref a, rfl, .ref p, rfl, a, p, kyZ true m h b, _, _, rfl, rfl, m7, eb7, by rw [valV_put, if_pos rfl], q _ _ hx m7 g7⟩
theorem tree_semL (hC : Clz C) (hi : ∀ (m h : Nat) (b : Option Nat), (∀ k, b = some k → 1 ≤ k ∧ k ≤ 1000) → toD (Fi [D.int m, D.int h, bD b]) = some (D.bl (freeZ m h b))) (hb12 : ∀ r m h b, C r m h b → ∀ k, b = some k → 1 ≤ k ∧ k ≤ 1000)
    {m h d : Nat} {b : Option Nat} {a : Addr} {kvs : List (List Leaf × V)} (hc : C false m h b) (hm0 : 0 < m) (hd : m < 2 ^ d) (hk : 2 * h + d < k + 1) (mem : MemoAt P w H a kvs) (g : GoodZ C kvs)
    (q : ∀ H' kvs', ExtZ a H H' → MemoAt P w H' a kvs' → GoodZ C kvs' → Q (.int ((sz false h b m : Nat) : Int)) H') :
    tTreeL P w (spF K cl 3 Fi) (spZ true P w C k) (spZ false P w C k) { nx := D0, rt := Q } (stZ m h b a [none, none]) H := by
  refine ⟨.int h, rfl, (h : Int), 0, rfl, rfl, decide ((h : Int) = 0), rfl, ?_⟩
  dsimp only
  cases h with
  | zero =>
    rw [if_pos (by rfl)]
    exact q H kvs (ExtZ.refl a H) mem g
  | succ h =>
  rw [if_neg (by rw [decide_eq_false (by omega)]; simp)]
  refine ⟨.int m, rfl, .int ((h + 1 : Nat) : Int), rfl, bV b, rfl, (by show 4 ≤ sizeLine; decide), fun p hp => ?_⟩
  have eb : L2.upd H p (.tup [.str "tree", .int m, .int ((h + 1 : Nat) : Int), bV b]) p = some (.tup ((kyZ false m (h + 1) b).map lV)) := by
    rw [upd_same, ky_vs]
    rfl
  have s1 : Same H (L2.upd H p (.tup [.str "tree", .int m, .int ((h + 1 : Nat) : Int), bV b])) := same_upd hp
  have m1 := mem.same s1
  generalize hH1 : L2.upd H p (.tup [.str "tree", .int m, .int ((h + 1 : Nat) : Int), bV b]) = H1 at eb s1 m1
  have hpa : p ≠ a := mem.nf hp
  refine ⟨.ref p, rfl, .ref a, rfl, a, p, kyZ false m (h + 1) b, kvs, rfl, rfl, m1, eb, (!(valV kvs (kyZ false m (h + 1) b)).isSome), rfl, ?_⟩
  have hh1 : ((h + 1 : Nat) : Int) - 1 = (h : Int) := by omega
  have hm1 : (m : Int) - 1 = ((m - 1 : Nat) : Int) := by omega
  cases hv : valV kvs (kyZ false m (h + 1) b) with
  | some v =>
    dsimp only
    rw [if_neg (by simp)]
    have := g.at hv
    subst this
    exact ⟨.ref a, rfl, .ref p, rfl, a, p, kyZ false m (h + 1) b, kvs, _, rfl, rfl, m1, eb, hv, q H1 kvs (ExtZ.same s1) m1 g⟩
  | none =>
    dsimp only
    rw [if_pos (by rfl)]
    -- the size is written and told
    have fin : ∀ (v : Int) (H2 : Hp) (kvs2 : List (List Leaf × V)) (z : Option V), v = ((sz false (h + 1) b m : Nat) : Int) → ExtZ a H H2 → H2 p = some (.tup ((kyZ false m (h + 1) b).map lV)) → MemoAt P w H2 a kvs2 → GoodZ C kvs2 →
        ∃ x, (stZ m (h + 1) b a [some (.ref p), z])[3]? = some (some x) ∧ ∃ y, (stZ m (h + 1) b a [some (.ref p), z])[4]? = some (some y) ∧ ∃ a' b' k' kvs', x = .ref a' ∧ y = .ref b' ∧ MemoAt P w H2 a' kvs' ∧ H2 b' = some (.tup (k'.map lV)) ∧ kvs'.length < sizeLine ∧
          ∀ φ, MemoAt P w (upd H2 a' (.ext φ)) a' (putK kvs' k' (.int v)) → tRet (tMGet P w (tVar 3) (tVar 4)) { nx := D0, rt := Q } (stZ m (h + 1) b a [some (.ref p), z]) (upd H2 a' (.ext φ)) := fun v H2 kvs2 z ev x2 e2 m2 g2 => by
      subst ev
      refine ⟨.ref a, rfl, .ref p, rfl, a, p, kyZ false m (h + 1) b, kvs2, rfl, rfl, m2, e2, g2.few hC, fun φ m7 => ?_⟩
      have eb7 : L2.upd H2 a (.ext φ) p = some (.tup ((kyZ false m (h + 1) b).map lV)) := by
        rw [upd_ne hpa]
        exact e2
      exact ⟨.ref a, rfl, .ref p, rfl, a, p, kyZ false m (h + 1) b, _, _, rfl, rfl, m7, eb7, by rw [valV_put, if_pos rfl], q _ _ (x2.trans ExtZ.upd) m7 (g2.put hm0 hc)⟩
    have hden : Dens K cl (fun _ => none) [D.int m, D.int ((h + 1 : Nat) : Int), bD b] [.int m, .int ((h + 1 : Nat) : Int), bV b] := by
      refine Dens.cons (by simp only [Den]) (Dens.cons (by simp only [Den]) (Dens.cons ?_ Dens.nil))
      cases b with
      | none => simp only [bD, bV, Den]
      | some k => simp only [bD, bV, Den]
    refine ⟨.int m, rfl, .int ((h + 1 : Nat) : Int), rfl, bV b, rfl, spF_pure (E := E0) hden rfl (hi m (h + 1) b (hb12 _ _ _ _ hc)) (u := .bl (freeZ m (h + 1) b)) (fun G v z => by simpa only [Den] using z) fun H2 s2 => ⟨_, rfl, ?_⟩⟩
    have eb2 := s2 p _ eb
    have m2 := m1.same s2
    have x2 : ExtZ a H H2 := (ExtZ.same s1).trans (ExtZ.same s2)
    cases hfr : freeZ m (h + 1) b with
    | true =>
      dsimp only
      rw [if_pos rfl]
      have c1 := hC.t1 m h b hm0 hc hfr
      refine ⟨.int m, rfl, .int ((h + 1 : Nat) : Int), rfl, _, _, rfl, rfl, .ref a, rfl, ?_⟩
      rw [hh1]
      refine ⟨m, h, d, none, a, kvs, rfl, c1, (fun z => nomatch z), hd, by rw [if_pos rfl]; omega, m2, g, fun H3 kvs3 x3 m3 g3 => ?_⟩
      refine fin _ H3 kvs3 none ?_ (x2.trans x3) (x3 p _ hpa eb2) m3 g3
      congr 1
      unfold sz
      rw [if_pos rfl, if_neg (by simp), treeZ_free hfr]
    | false =>
      dsimp only
      rw [if_neg (by simp)]
      cases b with
      | none => cases hfr
      | some k' =>
      obtain ⟨c1, c2⟩ := hC.t2 m h k' hm0 hc hfr
      have hk0 : 1 ≤ k' := (hb12 _ _ _ _ hc k' rfl).1
      refine ⟨.int k', rfl, (k' : Int), 1, rfl, rfl, decide ((k' : Int) = 1), rfl, ?_⟩
      dsimp only
      by_cases hk1 : k' = 1
      · subst hk1
        rw [if_pos (by rfl)]
        refine ⟨.int m, rfl, .int ((h + 1 : Nat) : Int), rfl, _, _, rfl, rfl, .ref a, rfl, ?_⟩
        rw [hh1]
        refine ⟨m, h, d, some 1, a, kvs, rfl, c1, (fun _ => hm0), hd, by rw [if_neg (by simp)]; omega, m2, g, fun H3 kvs3 x3 m3 g3 => ?_⟩
        refine fin _ H3 kvs3 none ?_ (x2.trans x3) (x3 p _ hpa eb2) m3 g3
        congr 1
        unfold sz
        rw [if_neg (by simp), if_neg (by simp), treeZ_some hfr, if_neg (by omega), Nat.add_zero]
      · rw [if_neg (by rw [decide_eq_false (by omega)]; simp)]
        have hk2 : (k' : Int) - 1 = ((k' - 1 : Nat) : Int) := by omega
        refine ⟨.int m, rfl, _, _, rfl, rfl, .int ((h + 1 : Nat) : Int), rfl, _, _, rfl, rfl, .int k', rfl, _, _, rfl, rfl, .ref a, rfl, ?_⟩
        rw [hm1, hh1, hk2]
        refine ⟨m - 1, h, d, some (k' - 1), a, kvs, rfl, c2 (by omega), (fun z => nomatch z), by omega, by rw [if_pos rfl]; omega, m2, g, fun H3 kvs3 x3 m3 g3 => ?_⟩
        have eb3 := x3 p _ hpa eb2
        refine ⟨_, rfl, .int m, rfl, .int ((h + 1 : Nat) : Int), rfl, _, _, rfl, rfl, .int k', rfl, .ref a, rfl, ?_⟩
        rw [hh1]
        refine ⟨m, h, d, some k', a, kvs3, rfl, c1, (fun _ => hm0), hd, by rw [if_neg (by simp)]; omega, m3, g3, fun H4 kvs4 x4 m4 g4 => ?_⟩
        refine ⟨_, _, rfl, rfl, _, rfl, _, _, rfl, rfl, ?_⟩
        refine fin _ H4 kvs4 _ ?_ ((x2.trans x3).trans x4) (x4 p _ hpa eb3) m4 g4
        have : sz false (h + 1) (some k') m = sz false h (some k') m + 2 * sz true h (some (k' - 1)) (m - 1) := by
          unfold sz
          rw [if_neg (by simp), if_neg (by simp), if_pos rfl, treeZ_some hfr, if_pos (by omega)]
        omega
end
def mFree : Sf :=
    (sSeq (sIf (tOrF (tB1 (eBin oIsN (eVar 2) (eC .non))) (tB1 (eBin oLt (eVar 1) (eVar 2))))
    (sRet (eC (.bl true)))
    sNext)
    (sSeq (sSet 3 (eC (.int 1)))
    (sSeq (sFor (aRng1 (aCons (eVar 2) aNil)) (.nm 4)
    (sSet 3 (eBin oMul (eC (.int 2)) (eVar 3))))
    (sRet (eBin oLt (eVar 0) (eVar 3))))))
theorem sSeq_nx {F G : Sf} {ρ ρ1 : Env} (h : F ρ = .nx ρ1) : sSeq F G ρ = G ρ1 := by
  unfold sSeq
  rw [h]
theorem pow_loop {c0 c1 c2 : Cell} : ∀ (ds : List D) (p : Int) (c4 : Cell), ∃ c4', loopF (.nm 4) (sSet 3 (eBin oMul (eC (.int 2)) (eVar 3))) ds [c0, c1, c2, .sh (.int p), c4] = .nx [c0, c1, c2, .sh (.int (p * 2 ^ ds.length)), c4']
  | [], p, c4 => ⟨c4, by rw [loopF]; simp⟩
  | d :: ds, p, c4 => by
    obtain ⟨c4', e⟩ := pow_loop ds (2 * p) (.sh d)
    refine ⟨c4', ?_⟩
    have e1 : put (.nm 4) d [c0, c1, c2, .sh (.int p), c4] = some [c0, c1, c2, .sh (.int p), .sh d] := rfl
    have e2 : oMul (.int 2) (.int p) = some (.int (2 * p)) := oMul_a (by omega)
    have e3 : sSet 3 (eBin oMul (eC (.int 2)) (eVar 3)) [c0, c1, c2, .sh (.int p), .sh d] = .nx [c0, c1, c2, .sh (.int (2 * p)), .sh d] := by
      unfold sSet eBin eC eVar
      simp only [cellAt, Option.bind_some, e2]
      rfl
    rw [loopF, e1]
    dsimp only
    rw [e3]
    dsimp only
    rw [e, List.length_cons, Int.pow_succ, ← Int.mul_assoc, Int.mul_comm 2 p, Int.mul_assoc, Int.mul_assoc, Int.mul_comm 2 (2 ^ ds.length)]
theorem bits_pow (m k : Nat) : (((Builtin.Int.intBits (m : Int) : Nat) : Int) ≤ (k : Int)) ↔ m < 2 ^ k := by
  unfold Builtin.Int.intBits
  by_cases h : m = 0
  · subst h
    simp
    exact Nat.pow_pos (by decide)
  · rw [if_neg (by simp; omega)]
    have h1 := Nat.log2_lt (n := ((m : Int)).natAbs) (k := k) (by omega)
    have e : ((m : Int)).natAbs = m := by omega
    rw [e] at h1 ⊢
    rw [← h1]
    omega
theorem sFor_eq {f : Af} {t : Tg} {F : Sf} {ρ : Env} {ds : List D} {o : Out} (h : f ρ = some ds) (h2 : loopF t F ds ρ = o) : sFor f t F ρ = o := by
  unfold sFor
  rw [h]
  exact h2
theorem fr_rng {c0 c1 c3 c4 : Cell} (k : Nat) (hk : k ≤ 1000) : (aRng1 (aCons (eVar 2) aNil)) [c0, c1, .sh (.int k), c3, c4] = some (rangeD 0 k) := by
  have e0 : (aCons (eVar 2) aNil) [c0, c1, .sh (.int k), c3, c4] = some [.int k] := rfl
  have hj : (k : Int) < 4611686018427387904 ∧ -4611686018427387904 ≤ (k : Int) := by omega
  unfold aRng1
  rw [e0]
  dsimp only
  rw [if_pos hj, Int.toNat_natCast]
theorem fr_some (m h k : Nat) (hk : k ≤ 1000) : runF 5 mFree [D.int m, D.int h, D.int k] = .ok (.bl (decide ((h : Int) < (k : Int)) || decide ((m : Int) < 2 ^ k))) := by
  by_cases h1 : (h : Int) < (k : Int)
  · have t0 : (tOrF (tB1 (eBin oIsN (eVar 2) (eC .non))) (tB1 (eBin oLt (eVar 1) (eVar 2)))) [.sh (.int m), .sh (.int h), .sh (.int k), .no, .no] = some true := by
      simp [tOrF, tB1, eBin, eVar, eC, cellAt, oIsN, asB, oLt, oCmp, h1]
    have t1 : (sIf (tOrF (tB1 (eBin oIsN (eVar 2) (eC .non))) (tB1 (eBin oLt (eVar 1) (eVar 2)))) (sRet (eC (.bl true))) sNext) [.sh (.int m), .sh (.int h), .sh (.int k), .no, .no] = .rt (.bl true) [.sh (.int m), .sh (.int h), .sh (.int k), .no, .no] := by
      unfold sIf
      rw [t0]
      rfl
    rw [decide_eq_true h1, Bool.true_or]
    show retOf (mFree [.sh (.int m), .sh (.int h), .sh (.int k), .no, .no]) = _
    unfold mFree sSeq
    rw [t1]
    rfl
  · obtain ⟨c4', hl⟩ := pow_loop (c0 := .sh (.int m)) (c1 := .sh (.int h)) (c2 := .sh (.int k)) (rangeD 0 k) 1 .no
    have t0 : (tOrF (tB1 (eBin oIsN (eVar 2) (eC .non))) (tB1 (eBin oLt (eVar 1) (eVar 2)))) [.sh (.int m), .sh (.int h), .sh (.int k), .no, .no] = some false := by
      simp [tOrF, tB1, eBin, eVar, eC, cellAt, oIsN, asB, oLt, oCmp, h1]
    have t1 : (sIf (tOrF (tB1 (eBin oIsN (eVar 2) (eC .non))) (tB1 (eBin oLt (eVar 1) (eVar 2)))) (sRet (eC (.bl true))) sNext) [.sh (.int m), .sh (.int h), .sh (.int k), .no, .no] = .nx [.sh (.int m), .sh (.int h), .sh (.int k), .no, .no] := by
      unfold sIf
      rw [t0]
      rfl
    have hlen : (rangeD 0 k).length = k := by
      unfold rangeD
      rw [List.length_map, List.length_range]
    rw [hlen, Int.one_mul] at hl
    have t3 : (sFor (aRng1 (aCons (eVar 2) aNil)) (.nm 4) (sSet 3 (eBin oMul (eC (.int 2)) (eVar 3)))) [.sh (.int m), .sh (.int h), .sh (.int k), .sh (.int 1), .no] = .nx [.sh (.int m), .sh (.int h), .sh (.int k), .sh (.int (2 ^ k)), c4'] := by
      exact sFor_eq (fr_rng k hk) hl
    rw [decide_eq_false h1, Bool.false_or]
    show retOf (mFree [.sh (.int m), .sh (.int h), .sh (.int k), .no, .no]) = _
    have ts : (sSet 3 (eC (.int 1))) [.sh (.int m), .sh (.int h), .sh (.int k), .no, .no] = .nx [.sh (.int m), .sh (.int h), .sh (.int k), .sh (.int 1), .no] := rfl
    unfold mFree
    rw [sSeq_nx t1, sSeq_nx ts, sSeq_nx t3]
    rfl
theorem freeL_val (m h : Nat) (b : Option Nat) (hb : ∀ k, b = some k → 1 ≤ k ∧ k ≤ 1000) : toD (runF 5 mFree [D.int m, D.int h, bD b]) = some (D.bl (freeZ m h b)) := by
  cases b with
  | none => rfl
  | some k =>
    have hk := hb k rfl
    have hd : decide ((m : Int) < 2 ^ k) = decide (((Builtin.Int.intBits (m : Int) : Nat) : Int) ≤ (k : Int)) := decide_eq_decide.mpr (by
      rw [bits_pow, ← Int.ofNat_lt, Int.natCast_pow]
      exact Iff.rfl)
    show toD (runF 5 mFree [D.int m, D.int h, D.int k]) = _
    rw [fr_some m h k hk.2, hd, Bool.or_comm]
    rfl
structure DefZ (P : Program) (wd : World) (K : PySem.W.Frag) (mg : Str → Option Value) (base : Heap) (k : Nat) (x : Str) : Prop where
  ex : ∀ C, Clz C → (∀ r m h b, C r m h b → ∀ k, b = some k → 1 ≤ k ∧ k ≤ 1000) → DefS P wd K mg base k x (spZ false P wd C 46)
theorem DefZ.mono {P : Program} {wd : World} {K : PySem.W.Frag} {mg : Str → Option Value} {base : Heap} {j k : Nat} {x : Str} (d : DefZ P wd K mg base j x) (h : j ≤ k) : DefZ P wd K mg base k x := ⟨fun C a b => (d.ex C a b).mono h⟩
end Fw
namespace Fw
open PySem PySem.Spec PyProof.Rows L2
structure MtE (P : Program) (wd : World) (K : PySem.W.Frag) (mg : Str → Option Value) (base : Heap) (cl : Nat → ClsT) (k c : Nat) (m : Str) (np : Nat) (F : List D → RetE) : Prop where
  ex : ∃ (f : Addr) (fd : FuncData) (ps : List Str), Meth K (cl c).addr m f ∧ Binds K fd ps [] ∧ FnOk P wd K mg base (L2N.CX P wd) k f fd ps (spE K cl np F)
theorem MtE.mono {P : Program} {wd : World} {K : PySem.W.Frag} {mg : Str → Option Value} {base : Heap} {cl : Nat → ClsT} {j k c : Nat} {m : Str} {np : Nat} {F : List D → RetE} (d : MtE P wd K mg base cl j c m np F) (h : j ≤ k) : MtE P wd K mg base cl k c m np F :=
  let ⟨f, fd, ps, a, b, o⟩ := d.ex
  ⟨f, fd, ps, a, b, o.mono h⟩
end Fw
namespace Fw
open PySem PySem.Spec PyProof.Rows L2
def rComb : List V → Hp → VK → Prop := fun vs H Q => ∃ a b : Int, vs = [.int a, .int b] ∧ 0 ≤ a ∧ a < 1000000 ∧ 0 ≤ b ∧ b ≤ 9000 ∧ Q (.int (PySem.W.mcComb a b)) H
def oComb : List D → Option D
  | [.int a, .int b] => if 0 ≤ a ∧ a < 1000000 ∧ 0 ≤ b ∧ b ≤ 9000 then some (.int (PySem.W.mcComb a b)) else none
  | _ => none
def oMin3 : List D → Option D
  | [.int i, .int j, .int k] => some (.int (min (min i j) k))
  | _ => none
section
variable {X : Cx} {w : Wd} {e : Expr} {es : List Expr} {fs : Af} {pos p : Pos} {x : Str} {K : PySem.W.Frag} {cl : Nat → ClsT} {id : String}
theorem cr_comb : CallR X (.builtin "math.comb") rComb := by
  intro pins s σ H vs us Q I r h
  obtain ⟨a, b, rfl, h1, h2, h3, h4, q⟩ := h
  obtain ⟨t, u, rfl⟩ := Vals.int2 r
  exact PySem.W.mc_comb h1 h3 (by omega) (.inl h4) fun _ => ⟨.int _, H, I.tok _, ⟨_, rfl⟩, q⟩
theorem r_comb : ResC K cl rComb oComb := by
  intro ds z hz H G vs Q s hv q
  unfold oComb at hz
  split at hz
  · rename_i a b
    split at hz
    · rename_i hr
      cases hz
      obtain ⟨v, u, rfl, h1, h2⟩ := obsl2 hv
      exact ⟨a, b, by rw [obs_int h1, obs_int h2], hr.1, hr.2.1, hr.2.2.1, hr.2.2.2, q _ H G (Grow.refl s) mk_int⟩
    · cases hz
  · cases hz
theorem obsl3 {G H : Hp} {a b c : D} {vs : List V} (h : ObsL K cl G H [a, b, c] vs) : ∃ u v x, vs = [u, v, x] ∧ Obs K cl G H a u ∧ Obs K cl G H b v ∧ Obs K cl G H c x := by
  obtain ⟨v, r, e, h1, h2⟩ := h
  obtain ⟨v2, r2, e2, h3, h4⟩ := h2
  obtain ⟨v3, r3, e3, h5, h6⟩ := h4
  have h6 : r3 = [] := h6
  exact ⟨v, v2, v3, by rw [e, e2, e3, h6], h1, h3, h5⟩
theorem nu_int (i j : Int) : nuMin2 (.int i) (.int j) = some (.int (min i j)) := by
  show (some (decide (j < i))).map _ = _
  rw [Option.map_some]
  congr 1
  by_cases h : j < i
  · rw [decide_eq_true h, if_pos rfl, Int.min_eq_right (Int.le_of_lt h)]
  · rw [decide_eq_false h, if_neg (by decide), Int.min_eq_left (Int.not_lt.mp h)]
theorem r_min3 : ResC K cl (rNuC3 nuMin3) oMin3 := by
  intro ds z hz H G vs Q s hv q
  unfold oMin3 at hz
  split at hz
  · rename_i i j k
    cases hz
    obtain ⟨v, u, x, rfl, h1, h2, h3⟩ := obsl3 hv
    refine ⟨.int i, .int j, .int k, .int (min (min i j) k), by rw [obs_int h1, obs_int h2, obs_int h3], ?_, q _ H G (Grow.refl s) mk_int⟩
    unfold nuMin3
    rw [nu_int, Option.bind_some, nu_int]
  · cases hz
def oShl : D → D → Option D := oInt (fun i j => decide (0 ≤ j ∧ j ≤ 1000000 ∧ i.natAbs < 18446744073709551616)) fun i j => i * 2 ^ j.toNat
theorem r_shl : Res2 K cl (rI CPow fun i j => .int (i * 2 ^ j.toNat)) oShl := r_int fun i j h => by
  have h' := of_decide_eq_true h
  exact ⟨h'.1, h'.2.1, h'.2.2⟩
theorem ve_callG {r : List V → Hp → VK → Prop} {o : List D → Option D} (hc : CallR X (.builtin id) r) (hr : ResC X.K w.cl r o) (hg : Gl X x) (hm : X.mg x = some (.builtin id)) (ha : VAo w X (e :: es) fs) (hdb : (x == ("__debug__" : Str)) = false := by decide)
    (he : starEach (e :: es) X.env = (false, eval e X.env) :: starEach es X.env := by rfl) (hpl : (backTo pos (starEach es X.env)).any (·.1) = false := by rfl) : VE w X (.Call (.Name x p) (e :: es) [] pos) (eArgs o fs) :=
  PE.imp (pe_callBfun hc hg hm ha hdb he hpl) (callC_imp hr)
end
theorem all_cl {w0 : Wd} {p : Wd → Prop} (h : ∀ G H s x a, p ⟨w0.cl, G, H, s, x, a⟩) : ∀ w, LeW w0 w → p w := fun ⟨cl, G, H, s, x, a⟩ le => by
  have e : cl = w0.cl := le.cl
  subst e
  exact h G H s x a
theorem mem_LsZ {N : Nat} {r : Bool} {m h : Nat} {b : Option Nat} (hc : ReZ N r m h b) : kyZ r m h b ∈ LsZ N := by
  obtain ⟨h1, h2, i, h3, h4, h5⟩ := hc
  have hs := slk_le h2
  unfold LsZ
  refine List.mem_flatMap.mpr ⟨r, by cases r <;> simp, List.mem_flatMap.mpr ⟨i, List.mem_range.mpr (by omega), List.mem_flatMap.mpr ⟨N / 2 ^ i - m, List.mem_range.mpr (by omega), List.mem_flatMap.mpr ⟨h, List.mem_range.mpr (by omega), List.mem_map.mpr ⟨b, ?_, ?_⟩⟩⟩⟩⟩
  · cases b with
    | none => simp
    | some k => exact List.mem_cons_of_mem _ (List.mem_map.mpr ⟨k, List.mem_range.mpr (by have := h2 k rfl; omega), rfl⟩)
  · congr 1
    omega
def CNs (Ns : List Nat) : KyC := fun r m h b => ∃ N, N ∈ Ns ∧ N < 2 ^ 20 ∧ ReZ N r m h b
theorem LsN_len : ∀ Ns : List Nat, (Ns.flatMap LsZ).length = Ns.length * 129948
  | [] => rfl
  | N :: Ns => by
    rw [List.flatMap_cons, List.length_append, LsZ_len, LsN_len Ns, List.length_cons]
    omega
theorem clz_CN {Ns : List Nat} (hl : Ns.length ≤ 100) : Clz (CNs Ns) := by
  refine ⟨fun m h b hm ⟨N, h1, h2, c⟩ => ?_, fun m h b hm ⟨N, h1, h2, c⟩ hf => ⟨N, h1, h2, (clz_re h2).t1 m h b hm c hf⟩, fun m h k hm ⟨N, h1, h2, c⟩ hf => ?_, Ns.flatMap LsZ, ?_, fun r m h b hm ⟨N, h1, h2, c⟩ => List.mem_flatMap.mpr ⟨N, h1, mem_LsZ c⟩⟩
  · obtain ⟨q1, q2, q3⟩ := (clz_re h2).r1 m h b hm c
    exact ⟨⟨N, h1, h2, q1⟩, ⟨N, h1, h2, q2⟩, ⟨N, h1, h2, q3⟩⟩
  · obtain ⟨q1, q2⟩ := (clz_re h2).t2 m h k hm c hf
    exact ⟨⟨N, h1, h2, q1⟩, fun h => ⟨N, h1, h2, q2 h⟩⟩
  · rw [LsN_len]
    have : sizeLine = 16777216 := by decide
    omega
theorem pos_CN {Ns : List Nat} : ∀ r m h b, posC (CNs Ns) r m h b → ∀ k, b = some k → 1 ≤ k ∧ k ≤ 1000 := fun r m h b ⟨⟨N, _, _, c⟩, p⟩ k e => ⟨p k e, by have := c.2.1 k e; omega⟩
def eSzN (Ns : List Nat) (i : Nat) (f1 f2 f3 : Ef) : Ef := fun ρ => match cellAt ρ i with
  | .xc => (f1 ρ).bind fun n => (f2 ρ).bind fun h => (f3 ρ).bind fun b => match n with
    | .int n => if n.toNat ∈ Ns then szD (.int n) h b else none
    | _ => none
  | _ => none
def dNat : D → Option Nat
  | .int n => some n.toNat
  | _ => none
def nsf3 (f1 f2 f3 : Ef) : Env → Option (List Nat) := fun ρ => ((f1 ρ).bind dNat).bind fun a => ((f2 ρ).bind dNat).bind fun b => ((f3 ρ).bind dNat).bind fun c => some [a, b, c]
def sMemoN (i : Nat) (nsf : Env → Option (List Nat)) (F : List Nat → Sf) : Sf := fun ρ => match nsf ρ with
  | some Ns => if Ns.length ≤ 100 then sMemo i (F Ns) ρ else .stuck
  | none => .stuck
section
variable {X : Cx} {w w0 : Wd} {e1 e2 e3 e4 : Expr} {f1 f2 f3 : Ef} {k : Nat} {x : Str} {pos p dp : Pos} {Ns : List Nat}
theorem pem_memoN {i : Nat} (hl : Ns.length ≤ 100) (dz : DefZ X.prog X.w X.K X.mg X.base k x) (hr : Room k X.A) (hg : Gl X x) (h1 : PE X e1 (tPM X.prog X.w X.K (posC (CNs Ns)) w0 f1)) (h2 : PE X e2 (tPM X.prog X.w X.K (posC (CNs Ns)) w0 f2)) (h3 : PE X e3 (tPM X.prog X.w X.K (posC (CNs Ns)) w0 f3)) (h4 : PE X e4 (tVar i))
    (hdb : (x == ("__debug__" : Str)) = false := by decide) (s1 : starEach [e1, e2, e3, e4] X.env = (false, eval e1 X.env) :: starEach [e2, e3, e4] X.env := by rfl)
    (s2 : starEach [e2, e3, e4] X.env = (false, eval e2 X.env) :: starEach [e3, e4] X.env := by rfl) (s3 : starEach [e3, e4] X.env = (false, eval e3 X.env) :: starEach [e4] X.env := by rfl) (s4 : starEach [e4] X.env = (false, eval e4 X.env) :: starEach [] X.env := by rfl)
    (hpl : (backTo pos (starEach [e2, e3, e4] X.env)).any (·.1) = false := by rfl) : PE X (.Call (.Name x p) [e1, e2, e3, e4] [] pos) (tPM X.prog X.w X.K (posC (CNs Ns)) w0 (eSzN Ns i f1 f2 f3)) :=
  PE.imp (pe_callZ (dz.ex _ (clz_pos (clz_CN hl)) pos_CN) hr hg (pa_cons h1 (pa_cons h2 (pa_cons h3 (pa_cons h4 pa_nil s4) s3) s2) s1) hdb s1 hpl) fun σ H Q ⟨w, ρ, G, d0, le, r, m, hf, q⟩ => by
    unfold eSzN at hf
    split at hf
    · rename_i hc
      obtain ⟨a1, hf1, hf⟩ := bind_some2 hf
      obtain ⟨a2, hf2, hf⟩ := bind_some2 hf
      obtain ⟨a3, hf3, hf⟩ := bind_some2 hf
      split at hf
      · rename_i n0
        split at hf
        · rename_i hin
          obtain ⟨n, h, b, e0, rfl, hb, n0, n1, hh, hbk, hbp, rfl⟩ := szD_some hf
          cases e0
          refine ⟨w, ρ, G, _, le, r, m, hf1, fun w1 v1 H1 G1 le1 s1 r1 m1 z1 => ⟨w1, ρ, G1, _, le1, r1, m1, hf2, fun w2 v2 H2 G2 le2 s2 r2 m2 z2 => ⟨w2, ρ, G2, _, le2, r2, m2, hf3, fun w3 v3 H3 G3 le3 s3 r3 m3 z3 => ⟨.ref w3.xa, r3.xc i (cellAt_get hc fun z => nomatch z), ?_⟩⟩⟩⟩
          have q1 : v1 = .int n := by simpa only [Den] using z1
          have q2 : v2 = .int h := by simpa only [Den] using z2
          have q3 := den_bo hb z3
          subst q1 q2 q3
          obtain ⟨kvs, k1, k2⟩ := m3.at_
          refine ⟨n, h, 20, b, w3.xa, kvs, rfl, ⟨⟨n, hin, by omega, by omega, hbk, 0, by omega, by simp, by simp⟩, hbp⟩, fun _ => by omega, by omega, by rw [if_neg (by simp)]; omega, k1.same (hu_sub r3), k2, fun H' kvs' x' m' g' => ?_⟩
          obtain ⟨w4, le4, r4, m4⟩ := rebase le3 r3 m3 x' m' g'
          refine q w4 _ H' G3 le4 ((s1.trans s2).trans s3) r4 m4 ?_
          simp only [Den]
          rfl
        · cases hf
      · cases hf
    · cases hf
end
theorem vss_memoN {X : Cx} {w : Wd} {i : Nat} {x : Str} {rest : List Stmt} {nsf : Env → Option (List Nat)} {F : List Nat → Sf} {p1 dp pos : Pos} (hN : X.N.Nodup) (hi : X.N[i]? = some x) (hx : Loc X.env.scope x) (h : ∀ Ns : List Nat, Ns.length ≤ 100 → PSs X rest (tSM X.prog X.w X.K (posC (CNs Ns)) w (F Ns)))
    (hs : swapsWith (.Dict [] [] dp) (some (.Name x p1)) pos.line X.env = pure false := by rfl) (hf : X.fn x = true ∨ X.env.scope.names.lookup x = some .local := by first | exact .inl rfl | exact .inr rfl | assumption) :
    VSs w X (.Assign [.Name x p1] (.Dict [] [] dp) pos :: rest) (sMemoN i nsf F) := ⟨fun pins s σ H Ds I ⟨ρ, G, r, q⟩ => by
  unfold sMemoN at q
  split at q
  · rename_i Ns hns
    split at q
    · rename_i hl
      exact (vss_memo (w := w) (rest := rest) (p1 := p1) (dp := dp) (pos := pos) hN hi hx (h Ns hl) hs hf).run pins s σ H Ds I ⟨ρ, G, r, q⟩
    · exact q.elim
  · exact q.elim⟩
end Fw
namespace Fw
open PySem PySem.Spec PyProof.Rows L2
@[reducible] def encL {α : Type} (e : α → D) (xs : List α) : D := .lst (xs.map e)
@[reducible] def encT {α : Type} (e : α → D) (xs : List α) : D := .tup (xs.map e)
@[reducible] def encF (xs : List Int) : D := .fl (xs.map D.int)
def encO {α : Type} (e : α → D) : Option α → D
  | none => .non
  | some a => e a
@[simp] theorem encO_none {α : Type} {e : α → D} : encO e none = .non := rfl
@[simp] theorem encO_some {α : Type} {e : α → D} {a : α} : encO e (some a) = e a := rfl
def h0 (_ : Unit) : List D := []
@[reducible] def h1 {α : Type} (e : α → D) (a : α) : List D := [e a]
@[reducible] def hC {α γ : Type} (e : α → D) (fe : γ → List D) (p : α × γ) : List D := e p.1 :: fe p.2
abbrev KT (α : Type) := ∀ β : Type, (α → Option β) → Option β
/-- the typed computation t tells what f gives -/
def SK {α : Type} (ρ : Env) (f : Ef) (e : α → D) (t : KT α) : Prop :=
  ∀ (β : Type) (k : α → Option β) (b : β), t β k = some b → ∃ a, f ρ = some (e a) ∧ k a = some b
def SF {α : Type} (ρ : Env) (f : Af) (e : α → List D) (t : KT α) : Prop :=
  ∀ (β : Type) (k : α → Option β) (b : β), t β k = some b → ∃ a, f ρ = some (e a) ∧ k a = some b
def ST (ρ : Env) (f : Tf) (t : KT Bool) : Prop :=
  ∀ (β : Type) (k : Bool → Option β) (b : β), t β k = some b → ∃ a, f ρ = some a ∧ k a = some b
def SB {β : Type} (R : β → Out → Prop) (F : Sf) (ρ : Env) (t : Option β) : Prop := ∀ b, t = some b → R b (F ρ)
theorem bnd {α β : Type} {o : Option α} {k : α → Option β} {b : β} (h : o.bind k = some b) : ∃ a, o = some a ∧ k a = some b := bind_some2 h
section
variable {α γ δ ε β : Type} {ρ : Env} {f g : Ef} {fs gs : Af} {e ea : α → D} {eb : γ → D} {ec : δ → D} {ed : ε → D} {t t1 : KT α} {t2 : KT γ} {t3 : KT δ}
theorem sk_var {i : Nat} (e : α → D) (a : α) (h : (cellAt ρ i).shd = some (e a)) : SK ρ (eVar i) e (fun _ k => k a) := fun β k b q => ⟨a, by rw [eVar_x]; exact h, q⟩
theorem sk_c {d : D} (e : α → D) (a : α) (h : d = e a) : SK ρ (eC d) e (fun _ k => k a) := fun β k b q => ⟨a, by rw [h]; rfl, q⟩
/-- the same value, seen as another -/
theorem sk_as (c : α → γ) (hc : ∀ a, eb (c a) = ea a) (h : SK ρ f ea t) : SK ρ f eb (fun β k => t β fun a => k (c a)) := fun β k b q => by
  obtain ⟨a, h1, h2⟩ := h β _ b q
  exact ⟨c a, by rw [h1, hc], h2⟩
theorem sk_asP (c : α → Option γ) (hc : ∀ a z, c a = some z → eb z = ea a) (h : SK ρ f ea t) : SK ρ f eb (fun β k => t β fun a => (c a).bind k) := fun β k b q => by
  obtain ⟨a, h1, h2⟩ := h β _ b q
  obtain ⟨z, h3, h4⟩ := bnd h2
  exact ⟨z, by rw [h1, hc a z h3], h4⟩
theorem sk_some (h : SK ρ f e t) : SK ρ f (encO e) (fun β k => t β fun a => k (some a)) := sk_as some (fun _ => rfl) h
theorem sk_get {t : KT (Option α)} (h : SK ρ f (encO e) t) : SK ρ f e (fun β k => t β fun a => a.bind k) := sk_asP id (fun a z h => by
  cases (show a = some z from h)
  rfl) h
theorem sk_pure {a : α} (h : SK ρ f e (fun _ k => k a)) : f ρ = some (e a) := by
  obtain ⟨x, h1, h2⟩ := h α some a rfl
  cases h2
  exact h1
theorem st_pure {f : Tf} {a : Bool} (h : ST ρ f (fun _ k => k a)) : f ρ = some a := by
  obtain ⟨x, h1, h2⟩ := h Bool some a rfl
  cases h2
  exact h1
theorem sk_opt {o : Option α} (h : SK ρ f e (fun _ k => o.bind k)) {a : α} (ho : o = some a) : f ρ = some (e a) := by
  obtain ⟨x, h1, h2⟩ := h α some a (by rw [ho]; rfl)
  cases h2
  exact h1
/-- as a value of Option -/
theorem sk_dir (h : SK ρ f e t) {a : α} (q : t α some = some a) : f ρ = some (e a) := by
  obtain ⟨x, h1, h2⟩ := h α some a q
  cases h2
  exact h1
theorem st_dir {f : Tf} {t : KT Bool} (h : ST ρ f t) {a : Bool} (q : t Bool some = some a) : f ρ = some a := by
  obtain ⟨x, h1, h2⟩ := h Bool some a q
  cases h2
  exact h1
theorem sk_bin {o : D → D → Option D} (op : α → γ → δ) (ho : ∀ a b, o (ea a) (eb b) = some (ec (op a b))) (h1 : SK ρ f ea t1) (h2 : SK ρ g eb t2) : SK ρ (eBin o f g) ec (fun β k => t1 β fun a => t2 β fun b => k (op a b)) := fun β k b q => by
  obtain ⟨x, e1, q⟩ := h1 β _ b q
  obtain ⟨y, e2, q⟩ := h2 β _ b q
  exact ⟨op x y, by rw [eBin_x, e1, Option.bind_some, e2, Option.bind_some]; exact ho x y, q⟩
theorem sk_binP {o : D → D → Option D} (op : α → γ → Option δ) (ho : ∀ a b z, op a b = some z → o (ea a) (eb b) = some (ec z)) (h1 : SK ρ f ea t1) (h2 : SK ρ g eb t2) : SK ρ (eBin o f g) ec (fun β k => t1 β fun a => t2 β fun b => (op a b).bind k) := fun β k b q => by
  obtain ⟨x, e1, q⟩ := h1 β _ b q
  obtain ⟨y, e2, q⟩ := h2 β _ b q
  obtain ⟨z, e3, q⟩ := bnd q
  exact ⟨z, by rw [eBin_x, e1, Option.bind_some, e2, Option.bind_some]; exact ho x y z e3, q⟩
theorem sf_binP {o : D → D → Option (List D)} {fc : δ → List D} (op : α → γ → Option δ) (ho : ∀ a b z, op a b = some z → o (ea a) (eb b) = some (fc z)) (h1 : SK ρ f ea t1) (h2 : SK ρ g eb t2) : SF ρ (aBin o f g) fc (fun β k => t1 β fun a => t2 β fun b => (op a b).bind k) := fun β k b q => by
  obtain ⟨x, e1, q⟩ := h1 β _ b q
  obtain ⟨y, e2, q⟩ := h2 β _ b q
  obtain ⟨z, e3, q⟩ := bnd q
  exact ⟨z, by rw [aBin_x, e1, Option.bind_some, e2, Option.bind_some]; exact ho x y z e3, q⟩
theorem sk_un {o : D → Option D} (op : α → δ) (ho : ∀ a, o (ea a) = some (ec (op a))) (h1 : SK ρ f ea t1) : SK ρ (e1o o f) ec (fun β k => t1 β fun a => k (op a)) := fun β k b q => by
  obtain ⟨x, e1, q⟩ := h1 β _ b q
  exact ⟨op x, by rw [e1o_x, e1, Option.bind_some]; exact ho x, q⟩
theorem sk_a1 {o : List D → Option D} (op : α → δ) (ho : ∀ a, o [ea a] = some (ec (op a))) (h1 : SK ρ f ea t1) : SK ρ (eArgs o (aCons f aNil)) ec (fun β k => t1 β fun a => k (op a)) := fun β k b q => by
  obtain ⟨x, e1, q⟩ := h1 β _ b q
  refine ⟨op x, ?_, q⟩
  simp [e1, ho]
theorem sk_a1P {o : List D → Option D} (op : α → Option δ) (ho : ∀ a z, op a = some z → o [ea a] = some (ec z)) (h1 : SK ρ f ea t1) : SK ρ (eArgs o (aCons f aNil)) ec (fun β k => t1 β fun a => (op a).bind k) := fun β k b q => by
  obtain ⟨x, e1, q⟩ := h1 β _ b q
  obtain ⟨z, e3, q⟩ := bnd q
  refine ⟨z, ?_, q⟩
  simp [e1, ho x z e3]
theorem sk_a2 {o : List D → Option D} (op : α → γ → δ) (ho : ∀ a b, o [ea a, eb b] = some (ec (op a b))) (h1 : SK ρ f ea t1) (h2 : SK ρ g eb t2) : SK ρ (eArgs o (aCons f (aCons g aNil))) ec (fun β k => t1 β fun a => t2 β fun b => k (op a b)) := fun β k b q => by
  obtain ⟨x, e1, q⟩ := h1 β _ b q
  obtain ⟨y, e2, q⟩ := h2 β _ b q
  refine ⟨op x y, ?_, q⟩
  simp [e1, e2, ho]
theorem st_b (h : SK ρ f D.bl t') : ST ρ (tB1 f) t' := fun β k b q => by
  obtain ⟨x, e1, q⟩ := h β _ b q
  exact ⟨x, by rw [tB1_x, e1]; rfl, q⟩
theorem st_not {f : Tf} {t : KT Bool} (h : ST ρ f t) : ST ρ (tNotF f) (fun β k => t β fun b => k (!b)) := fun β k b q => by
  obtain ⟨x, e1, q⟩ := h β _ b q
  exact ⟨!x, by rw [tNotF_x, e1]; rfl, q⟩
/-- a second part that is a value -/
theorem st_andP {f g : Tf} {t : KT Bool} {b2 : Bool} (h : ST ρ f t) (h2 : ST ρ g (fun _ k => k b2)) : ST ρ (tAndF f g) (fun β k => t β fun b => k (b && b2)) := fun β k b q => by
  obtain ⟨x, e1, q⟩ := h β _ b q
  refine ⟨x && b2, ?_, q⟩
  rw [tAndF_x, e1, Option.bind_some, st_pure h2]
  cases x <;> rfl
theorem st_or {f g : Tf} {t t' : KT Bool} (h : ST ρ f t) (h2 : ST ρ g t') : ST ρ (tOrF f g) (fun β k => t β fun b => (if b = true then some true else t' Bool some).bind k) := fun β k b q => by
  obtain ⟨x, e1, q⟩ := h β _ b q
  obtain ⟨y, e2, q⟩ := bnd q
  refine ⟨y, ?_, q⟩
  rw [tOrF_x, e1, Option.bind_some]
  cases x with
  | true =>
    rw [if_pos rfl] at e2 ⊢
    exact e2
  | false =>
    rw [if_neg (by simp)] at e2 ⊢
    exact st_dir h2 e2
theorem sk_not {t : KT Bool} (h : SK ρ f D.bl t) : SK ρ (e1o oNot f) D.bl (fun β k => t β fun b => k (!b)) := sk_un (fun b => !b) (fun _ => rfl) h
theorem sk_andP {t : KT Bool} {b2 : Bool} (h : SK ρ f D.bl t) (h2 : SK ρ g D.bl (fun _ k => k b2)) : SK ρ (eAnd f g) D.bl (fun β k => t β fun b => k (b && b2)) := fun β k b q => by
  obtain ⟨x, e1, q⟩ := h β _ b q
  refine ⟨x && b2, ?_, q⟩
  rw [eAnd_x, e1, asBd_x, Option.bind_some, sk_pure h2]
  cases x <;> rfl
theorem sf_nil (e : α → D) : SF ρ aNil (List.map e) (fun _ k => k []) := fun β k b q => ⟨[], rfl, q⟩
theorem sf_cons {t' : KT (List α)} (h : SK ρ f e t) (h' : SF ρ fs (List.map e) t') : SF ρ (aCons f fs) (List.map e) (fun β k => t β fun a => t' β fun as => k (a :: as)) := fun β k b q => by
  obtain ⟨x, e1, q⟩ := h β _ b q
  obtain ⟨y, e2, q⟩ := h' β _ b q
  exact ⟨x :: y, by rw [aCons_x, e1, Option.bind_some, e2]; rfl, q⟩
theorem sh_one (h : SK ρ f e t) : SF ρ (aCons f aNil) (h1 e) t := fun β k b q => by
  obtain ⟨x, e1, q⟩ := h β _ b q
  exact ⟨x, by rw [aCons_x, e1, Option.bind_some]; rfl, q⟩
theorem sh_cons {fe : γ → List D} (h : SK ρ f e t) (h' : SF ρ fs fe t2) : SF ρ (aCons f fs) (hC e fe) (fun β k => t β fun a => t2 β fun as => k (a, as)) := fun β k b q => by
  obtain ⟨x, e1, q⟩ := h β _ b q
  obtain ⟨y, e2, q⟩ := h' β _ b q
  exact ⟨(x, y), by rw [aCons_x, e1, Option.bind_some, e2]; rfl, q⟩
/-- arguments: a function of the data -/
theorem sf_lst {fe : α → List D} (n : Nat) (hn : ALen fs n) (hb : n ≤ 16777216) (h : SF ρ fs fe t) : SF ρ (aLst fs) fe t := fun β k b q => by
  obtain ⟨x, e1, q⟩ := h β _ b q
  refine ⟨x, ?_, q⟩
  rw [aLst_x, e1, Option.bind_some, if_pos]
  rw [hn ρ _ e1]
  exact hb
theorem sk_fL {fe : α → List D} (h : SF ρ fs fe t) : SK ρ (fL fs) (fun a => .lst (fe a)) t := fun β k b q => by
  obtain ⟨x, e1, q⟩ := h β _ b q
  exact ⟨x, by rw [fL_x, e1]; rfl, q⟩
theorem sk_re (eb : α → D) (h : SK ρ f e t) (hc : ∀ a, e a = eb a := by intro _; rfl) : SK ρ f eb t := fun β k b q => by
  obtain ⟨x, e1, q⟩ := h β _ b q
  exact ⟨x, by rw [e1, hc], q⟩
theorem sf_re {fe : α → List D} (eb : α → List D) (h : SF ρ fs fe t) (hc : ∀ a, fe a = eb a := by intro _; rfl) : SF ρ fs eb t := fun β k b q => by
  obtain ⟨x, e1, q⟩ := h β _ b q
  exact ⟨x, by rw [e1, hc], q⟩
theorem sf_items {fe : α → List D} (h : SK ρ f e t) (hi : ∀ a, itemsOf (e a) = some (fe a) := by intro _; rfl) : SF ρ (aItems f) fe t := fun β k b q => by
  obtain ⟨x, e1, q⟩ := h β _ b q
  exact ⟨x, by rw [aItems_x, e1]; exact hi x, q⟩
def rgI (lo : Int) (n : Nat) : List Int := (List.range n).map fun i : Nat => lo + (i : Int)
theorem rangeD_rgI {lo : Int} {n : Nat} : rangeD lo n = (rgI lo n).map D.int := by
  unfold rangeD rgI
  rw [List.map_map]
  rfl
def okR (j : Int) : Bool := decide (j < 4611686018427387904 ∧ -4611686018427387904 ≤ j)
/-- range(j) -/
def rng1O (j : Int) : Option (List Int) := if okR j = true then some (rgI 0 j.toNat) else none
theorem sf_rng1 {t : KT Int} (h : SK ρ f D.int t) : SF ρ (aRng1 (aCons f aNil)) (List.map D.int) (fun β k => t β fun j => (rng1O j).bind k) := fun β k b q => by
  obtain ⟨x, e1, q⟩ := h β _ b q
  obtain ⟨z, e2, q⟩ := bnd q
  refine ⟨z, ?_, q⟩
  unfold rng1O at e2
  split at e2
  · rename_i hx
    cases e2
    have hx := of_decide_eq_true hx
    rw [aRng1_x, aCons_x, e1]
    show rng1 [.int x] = _
    rw [← rangeD_rgI]
    refine if_pos ?_
    unfold RngOk
    exact hx
  · cases e2
def enumO (xs : List α) : List (Int × α) := (List.range xs.length).zipWith (fun (i : Nat) d => ((i : Int), d)) xs
end
def szO {α : Type} (xs : List α) : Option (List α) := if xs.length ≤ 16777216 then some xs else none
def mapO {α β : Type} (f : α → Option β) : List α → Option (List β)
  | [] => some []
  | x :: xs => (f x).bind fun y => (mapO f xs).bind fun ys => some (y :: ys)
def filtO {α : Type} (c : α → Option Bool) : List α → Option (List α)
  | [] => some []
  | x :: xs => (c x).bind fun b => (filtO c xs).bind fun ys => some (if b = true then x :: ys else ys)
theorem filtO_pure {α : Type} (c : α → Bool) : ∀ xs : List α, filtO (fun x => some (c x)) xs = some (xs.filter c)
  | [] => rfl
  | x :: xs => by
    show (filtO _ xs).bind _ = _
    rw [filtO_pure c xs, Option.bind_some, List.filter_cons]
section
variable {α γ δ ε β : Type} {ρ : Env} {f : Ef} {fs : Af} {tg : Tg} {c : Tf} {e : α → D} {ec : γ → D} {ρ1 : α → Env} {ti : KT (List α)}
theorem comp_core {ct : α → Option Bool} {gt : α → Option γ} (hp : ∀ x, put tg (e x) ρ = some (ρ1 x)) (hc : ∀ x b, ct x = some b → c (ρ1 x) = some b) (hg : ∀ x z, gt x = some z → f (ρ1 x) = some (ec z)) : ∀ (xs : List α) (ys : List α) (zs : List γ), filtO ct xs = some ys → mapO gt ys = some zs → compL tg c f (xs.map e) ρ = some (zs.map ec)
  | [], ys, zs, h1, h2 => by
    cases h1
    cases h2
    rfl
  | x :: xs, ys, zs, h1, h2 => by
    obtain ⟨b, e1, h1⟩ := bnd h1
    obtain ⟨ws, e2, h1⟩ := bnd h1
    cases h1
    show (put tg (e x) ρ).bind _ = _
    rw [hp, Option.bind_some, hc x b e1, Option.bind_some]
    cases b with
    | true =>
      rw [if_pos rfl] at h2 ⊢
      obtain ⟨y, e3, h2⟩ := bnd h2
      obtain ⟨vs, e4, h2⟩ := bnd h2
      cases h2
      rw [hg x y e3, Option.bind_some, comp_core hp hc hg xs ws vs e2 e4]
      rfl
    | false =>
      rw [if_neg (by simp)] at h2 ⊢
      exact comp_core hp hc hg xs ws zs e2 h2
theorem sf_comp {ct : α → Option Bool} {gt : α → Option γ} (hi : SF ρ fs (List.map e) ti) (hp : ∀ x, put tg (e x) (wipeR ρ tg.ixs) = some (ρ1 x)) (hc : ∀ x, ST (ρ1 x) c (fun _ k => (ct x).bind k)) (hg : ∀ x, SK (ρ1 x) f ec (fun _ k => (gt x).bind k)) :
    SF ρ (aComp fs tg c f) (List.map ec) (fun β k => ti β fun xs => (szO xs).bind fun l => (filtO ct l).bind fun m => (mapO gt m).bind k) := fun β k b q => by
  obtain ⟨xs, e1, q⟩ := hi β _ b q
  obtain ⟨l, e2, q⟩ := bnd q
  obtain ⟨m, e3, q⟩ := bnd q
  obtain ⟨zs, e4, q⟩ := bnd q
  refine ⟨zs, ?_, q⟩
  unfold szO at e2
  split at e2
  · rename_i hl
    cases e2
    rw [aComp_x, e1, Option.bind_some, if_pos (by rw [List.length_map]; exact hl)]
    refine comp_core hp (fun x b h => ?_) (fun x z h => sk_opt (hg x) h) xs m zs e3 e4
    obtain ⟨a, h1, h2⟩ := hc x Bool some b (by rw [h]; rfl)
    cases h2
    exact h1
  · cases e2
theorem sf_compVO {ct : α → Bool} {gt : α → Option γ} (hi : SF ρ fs (List.map e) ti) (hp : ∀ x, put tg (e x) (wipeR ρ tg.ixs) = some (ρ1 x)) (hc : ∀ x, ST (ρ1 x) c (fun _ k => k (ct x))) (hg : ∀ x, ∀ z, gt x = some z → f (ρ1 x) = some (ec z)) :
    SF ρ (aComp fs tg c f) (List.map ec) (fun β k => ti β fun xs => (szO xs).bind fun l => (mapO gt (l.filter ct)).bind k) := fun β k b q => by
  refine sf_comp (ct := fun x => some (ct x)) hi hp hc (fun x β k b q => ?_) β k b (by
    simp only [filtO_pure, Option.bind_some]
    exact q)
  obtain ⟨z, h1, h2⟩ := bnd q
  exact ⟨z, hg x z h1, h2⟩
theorem sf_compO {gt : α → Option γ} (hi : SF ρ fs (List.map e) ti) (hp : ∀ x, put tg (e x) (wipeR ρ tg.ixs) = some (ρ1 x)) (hg : ∀ x, ∀ z, gt x = some z → f (ρ1 x) = some (ec z)) :
    SF ρ (aComp fs tg tYesF f) (List.map ec) (fun β k => ti β fun xs => (szO xs).bind fun l => (mapO gt l).bind k) := fun β k b q => by
  refine sf_compVO (ct := fun _ => true) hi hp (fun x β k b q => ⟨true, rfl, q⟩) hg β k b ?_
  have : ∀ l : List α, l.filter (fun _ => true) = l := fun l => List.filter_eq_self.mpr fun _ _ => rfl
  simp only [this]
  exact q
end
def RetD {α : Type} (e : α → D) (a : α) (o : Out) : Prop := Fw.toD (retOf o) = some (e a)
def RetW {α : Type} (e : α → Ow) (a : α) (o : Out) : Prop := toFr (retOf o) = some (e a)
def NxE {σ J : Type} (env : σ → J → Env) (s : σ) (o : Out) : Prop := ∃ j, o = .nx (env s j)
def TurnE {σ J : Type} (env : σ → J → Env) (s : σ) (o : Out) : Prop := ∃ j, o = .nx (env s j) ∨ o = .ct (env s j)
inductive Brk (σ : Type) where
  | go (s : σ) | stop (s : σ)
def BrkE {σ J : Type} (env : σ → J → Env) : Brk σ → Out → Prop
  | .go s, o => ∃ j, o = .nx (env s j) ∨ o = .ct (env s j)
  | .stop s, o => ∃ j, o = .bk (env s j)
section
variable {α γ δ β σ J r : Type} {ρ : Env} {f g : Ef} {fs gs : Af} {e : α → D} {t : KT α} {R : β → Out → Prop} {F G A B : Sf} {u : Option β}
theorem sb_top (h : SB R (sSeq F sNext) ρ u) : SB R F ρ u := fun b q => by
  have := h b q
  rw [sSeq_x] at this
  cases hF : F ρ with
  | nx ρ' =>
    rw [hF] at this
    exact this
  | bk ρ' =>
    rw [hF] at this
    exact this
  | ct ρ' =>
    rw [hF] at this
    exact this
  | rt d' ρ' =>
    rw [hF] at this
    exact this
  | rf d' ρ' =>
    rw [hF] at this
    exact this
  | ex c zs ρ' =>
    rw [hF] at this
    exact this
  | stuck =>
    rw [hF] at this
    exact this
theorem sb_assoc (h : SB R (sSeq A (sSeq B G)) ρ u) : SB R (sSeq (sSeq A B) G) ρ u := fun b q => by
  have := h b q
  rw [sSeq_x] at this
  rw [sSeq_x, sSeq_x]
  cases hA : A ρ with
  | nx ρ' =>
    rw [hA] at this
    rw [next_nx] at this ⊢
    rw [sSeq_x] at this
    exact this
  | bk ρ' =>
    rw [hA] at this
    exact this
  | ct ρ' =>
    rw [hA] at this
    exact this
  | rt d' ρ' =>
    rw [hA] at this
    exact this
  | rf d' ρ' =>
    rw [hA] at this
    exact this
  | ex c zs ρ' =>
    rw [hA] at this
    exact this
  | stuck =>
    rw [hA] at this
    exact this
theorem sb_next (h : SB R G ρ u) : SB R (sSeq sNext G) ρ u := h
theorem sb_set (i : Nat) {rest : α → Option β} (h : SK ρ f e t) (hr : ∀ x, SB R G (ρ.set i (.sh (e x))) (rest x)) : SB R (sSeq (sSet i f) G) ρ (t β rest) := fun b q => by
  obtain ⟨x, e1, q⟩ := h β _ b q
  rw [sSeq_x, sSet_x, e1]
  exact hr x b q
theorem sb_setF (i : Nat) {fe : α → List D} {rest : α → Option β} (h : SF ρ fs fe t) (hr : ∀ x, SB R G (ρ.set i (.own (.lst (fe x)))) (rest x)) : SB R (sSeq (sSetF i fs) G) ρ (t β rest) := fun b q => by
  obtain ⟨x, e1, q⟩ := h β _ b q
  rw [sSeq_x, sSetF_x, e1]
  exact hr x b q
theorem sb_ret {w : α → β} (h : SK ρ f e t) (hR : ∀ a, R (w a) (.rt (e a) ρ)) : SB R (sSeq (sRet f) G) ρ (t β fun a => some (w a)) := fun b q => by
  obtain ⟨x, e1, q⟩ := h β _ b q
  cases q
  rw [sSeq_x, sRet_x, e1]
  exact hR x
theorem sb_retF {w : α → β} {fe : α → List D} (h : SF ρ fs fe t) (hR : ∀ a, R (w a) (.rf (.lst (fe a)) ρ)) : SB R (sSeq (sRetF fs) G) ρ (t β fun a => some (w a)) := fun b q => by
  obtain ⟨x, e1, q⟩ := h β _ b q
  cases q
  rw [sSeq_x, sRetF_x, e1]
  exact hR x
theorem sb_retV (i : Nat) {w : β} (hR : R w (retV ρ i (cellAt ρ i))) (hn : ∀ G, (retV ρ i (cellAt ρ i)).next G = retV ρ i (cellAt ρ i)) : SB R (sSeq (sRetV i) G) ρ (some w) := fun b q => by
  cases q
  rw [sSeq_x, sRetV_x, hn]
  exact hR
theorem sb_brk {w : β} (hR : R w (.bk ρ)) : SB R (sSeq sBreak G) ρ (some w) := fun b q => by
  cases q
  exact hR
theorem sb_end {w : β} (hR : R w (.nx ρ)) : SB R sNext ρ (some w) := fun b q => by
  cases q
  exact hR
theorem sb_if {c : Tf} {tc : KT Bool} {ta tb : Option β} (h : ST ρ c tc) (ha : SB R (sSeq A G) ρ ta) (hb : SB R (sSeq B G) ρ tb) : SB R (sSeq (sIf c A B) G) ρ (tc β fun q => if q = true then ta else tb) := fun b q => by
  obtain ⟨x, e1, q⟩ := h β _ b q
  rw [sSeq_x, sIf_x, e1, opt_some]
  cases x with
  | true =>
    rw [if_pos rfl] at q ⊢
    have := ha b q
    rw [sSeq_x] at this
    exact this
  | false =>
    rw [if_neg (by simp)] at q ⊢
    have := hb b q
    rw [sSeq_x] at this
    exact this
theorem sb_ifJ {c : Tf} {tc : KT Bool} {env : σ → J → Env} {ta tb : Option σ} {rest : σ → Option β} (h : ST ρ c tc) (ha : SB (NxE env) A ρ ta) (hb : SB (NxE env) B ρ tb) (hr : ∀ s j, SB R G (env s j) (rest s)) :
    SB R (sSeq (sIf c A B) G) ρ (tc β fun q => (if q = true then ta else tb).bind rest) := fun b q => by
  obtain ⟨x, e1, q⟩ := h β _ b q
  obtain ⟨s, e2, q2⟩ := bnd q
  clear q
  rw [sSeq_x, sIf_x, e1, opt_some]
  cases x with
  | true =>
    rw [if_pos rfl] at e2 ⊢
    obtain ⟨j, e3⟩ := ha s e2
    rw [e3]
    exact hr s j b q2
  | false =>
    rw [if_neg (by simp)] at e2 ⊢
    obtain ⟨j, e3⟩ := hb s e2
    rw [e3]
    exact hr s j b q2
end
def forO {α σ : Type} (f : σ → α → Option σ) : List α → σ → Option σ
  | [], s => some s
  | x :: xs, s => (f s x).bind (forO f xs)
def forB {α σ : Type} (f : σ → α → Option (Brk σ)) : List α → σ → Option σ
  | [], s => some s
  | x :: xs, s => (f s x).bind fun
    | .go s' => forB f xs s'
    | .stop s' => some s'
section
variable {α β σ J r : Type} {ρ : Env} {fs : Af} {e : α → D} {ti : KT (List α)} {R : β → Out → Prop} {F G : Sf} {tg : Tg} {env : σ → J → Env} {ρ1 : σ → J → α → Env}
theorem loop_turn {d : D} {ds : List D} {ρ ρ1 : Env} {o : Out} (h : put tg d ρ = some ρ1) (hF : F ρ1 = o) : loopF tg F (d :: ds) ρ = o.turn (loopF tg F ds) := by
  rw [loop_cons, h, opt_some, hF]
theorem for_core {bt : σ → α → Option σ} (hp : ∀ s j x, put tg (e x) (env s j) = some (ρ1 s j x)) (hb : ∀ s j x, SB (TurnE env) F (ρ1 s j x) (bt s x)) : ∀ (xs : List α) (s s' : σ) (j : J), forO bt xs s = some s' → ∃ j', loopF tg F (xs.map e) (env s j) = .nx (env s' j')
  | [], s, s', j, h => by
    cases h
    exact ⟨j, rfl⟩
  | x :: xs, s, s', j, h => by
    obtain ⟨s1, e1, h⟩ := bnd h
    obtain ⟨j1, e2⟩ := hb s j x s1 e1
    rw [List.map_cons]
    rcases e2 with e2 | e2
    · rw [loop_turn (hp s j x) e2]
      exact for_core hp hb xs s1 s' j1 h
    · rw [loop_turn (hp s j x) e2]
      exact for_core hp hb xs s1 s' j1 h
theorem sb_for {bt : σ → α → Option σ} {rest : σ → Option β} {s0 : σ} {j0 : J} (hi : SF ρ fs (List.map e) ti) (h0 : ρ = env s0 j0) (hp : ∀ s j x, put tg (e x) (env s j) = some (ρ1 s j x)) (hb : ∀ s j x, SB (TurnE env) F (ρ1 s j x) (bt s x)) (hr : ∀ s j, SB R G (env s j) (rest s)) :
    SB R (sSeq (sFor fs tg F) G) ρ (ti β fun xs => (forO bt xs s0).bind rest) := fun b q => by
  obtain ⟨xs, e1, q⟩ := hi β _ b q
  obtain ⟨s, e2, q⟩ := bnd q
  obtain ⟨j, e3⟩ := for_core hp hb xs s0 s j0 e2
  rw [sSeq_x, sFor_x, e1, opt_some, h0, e3]
  exact hr s j b q
theorem forB_core {bt : σ → α → Option (Brk σ)} (hp : ∀ s j x, put tg (e x) (env s j) = some (ρ1 s j x)) (hb : ∀ s j x, SB (BrkE env) F (ρ1 s j x) (bt s x)) : ∀ (xs : List α) (s s' : σ) (j : J), forB bt xs s = some s' → ∃ j', loopF tg F (xs.map e) (env s j) = .nx (env s' j')
  | [], s, s', j, h => by
    cases h
    exact ⟨j, rfl⟩
  | x :: xs, s, s', j, h => by
    obtain ⟨z, e1, h⟩ := bnd h
    have e2 := hb s j x z e1
    rw [List.map_cons]
    cases z with
    | go s1 =>
      obtain ⟨j1, e2⟩ := e2
      rcases e2 with e2 | e2
      · rw [loop_turn (hp s j x) e2]
        exact forB_core hp hb xs s1 s' j1 h
      · rw [loop_turn (hp s j x) e2]
        exact forB_core hp hb xs s1 s' j1 h
    | stop s1 =>
      obtain ⟨j1, e2⟩ := e2
      cases h
      rw [loop_turn (hp s j x) e2]
      exact ⟨j1, rfl⟩
theorem sb_forB {bt : σ → α → Option (Brk σ)} {rest : σ → Option β} {s0 : σ} {j0 : J} (hi : SF ρ fs (List.map e) ti) (h0 : ρ = env s0 j0) (hp : ∀ s j x, put tg (e x) (env s j) = some (ρ1 s j x)) (hb : ∀ s j x, SB (BrkE env) F (ρ1 s j x) (bt s x)) (hr : ∀ s j, SB R G (env s j) (rest s)) :
    SB R (sSeq (sFor fs tg F) G) ρ (ti β fun xs => (forB bt xs s0).bind rest) := fun b q => by
  obtain ⟨xs, e1, q⟩ := hi β _ b q
  obtain ⟨s, e2, q⟩ := bnd q
  obtain ⟨j, e3⟩ := forB_core hp hb xs s0 s j0 e2
  rw [sSeq_x, sFor_x, e1, opt_some, h0, e3]
  exact hr s j b q
end
end Fw
namespace Fw
open PySem PySem.Spec PyProof.Rows L2
section
variable {α γ δ ε β σ J : Type} {ρ : Env} {f g h : Ef} {fs gs : Af} {e ea : α → D} {eb : γ → D} {ec : δ → D} {t : KT α} {R : β → Out → Prop} {F G : Sf}
def getI (xs : List α) (i : Int) : Option α := if 0 ≤ i then xs[i.toNat]? else if -(xs.length : Int) ≤ i then xs[(i + xs.length).toNat]? else none
theorem ixD_map (e : α → D) (xs : List α) (i : Int) : ixD (xs.map e) i = (getI xs i).map e := by
  unfold ixD getI
  rw [List.length_map]
  split
  · rw [List.getElem?_map]
  · split
    · rw [List.getElem?_map]
    · rfl
theorem getI_some (e : α → D) {xs : List α} {i : Int} {z : α} (h : getI xs i = some z) : ixD (xs.map e) i = some (e z) := by rw [ixD_map, h]; rfl
theorem sk_ixL {t1 : KT (List α)} {t2 : KT Int} (h1 : SK ρ f (encL e) t1) (h2 : SK ρ g D.int t2) : SK ρ (eBin oIx f g) e (fun β k => t1 β fun a => t2 β fun b => (getI a b).bind k) := sk_binP (ea := encL e) (eb := D.int) (ec := e) getI (fun a b z q => by
  show ixD (List.map e a) b = _
  exact getI_some e q) h1 h2
theorem sk_ixF {t1 : KT (List Int)} {t2 : KT Int} (h1 : SK ρ f encF t1) (h2 : SK ρ g D.int t2) : SK ρ (eBin oIx f g) D.int (fun β k => t1 β fun a => t2 β fun b => (getI a b).bind k) := sk_binP (ea := encF) (eb := D.int) (ec := D.int) getI (fun a b z q => by
  show ixD (List.map D.int a) b = _
  exact getI_some D.int q) h1 h2
/-- a fixed place -/
theorem sk_proj (i : Int) (pr : α → δ) (ho : ∀ a, oIx (ea a) (.int i) = some (ec (pr a))) (h : SK ρ f ea t) : SK ρ (eBin oIx f (eC (.int i))) ec (fun β k => t β fun a => k (pr a)) := fun β k b q => by
  obtain ⟨x, e1, q⟩ := h β _ b q
  exact ⟨pr x, by rw [eBin_x, e1, Option.bind_some, eC_x, Option.bind_some]; exact ho x, q⟩
def appO (xs : List α) (x : α) : Option (List α) := if xs.length < 16777216 then some (xs ++ [x]) else none
theorem sb_app (i : Nat) {rest : List α → Option β} (e : α → D) (xs : List α) (h0 : cellAt ρ i = .own (.lst (xs.map e))) (hf : SK ρ f e t) (hr : ∀ ys, SB R G (ρ.set i (.own (.lst (ys.map e)))) (rest ys)) :
    SB R (sSeq (sApp i f) G) ρ (t β fun x => (appO xs x).bind rest) := fun b q => by
  obtain ⟨x, e1, q⟩ := hf β _ b q
  obtain ⟨ys, e3, q⟩ := bnd q
  unfold appO at e3
  split at e3
  · rename_i hl
    cases e3
    have := hr _ b q
    rw [sSeq_x, sApp_x, e1, h0, opt_some, app_x, if_pos (by rw [List.length_map]; exact hl), next_nx]
    rw [List.map_append] at this
    exact this
  · cases e3
def mulO (a b : Int) : Option Int := if mulC a b = true then some (a * b) else none
def modO (a b : Int) : Option Int := if 0 < b then some (a % b) else none
def fdivO (a b : Int) : Option Int := if 0 < b ∧ b < 1073741824 then some (a / b) else none
theorem mul_ok (a b z : Int) (h : mulO a b = some z) : oMul (.int a) (.int b) = some (.int z) := by
  unfold mulO at h
  rw [oMul_int]
  split at h
  · rename_i q
    cases h
    rw [if_pos q]
  · cases h
theorem mod_ok (a b z : Int) (h : modO a b = some z) : oMod (.int a) (.int b) = some (.int z) := by
  unfold modO at h
  rw [oMod_int]
  split at h
  · rename_i q
    cases h
    rw [if_pos q]
  · cases h
theorem fdiv_ok (a b z : Int) (h : fdivO a b = some z) : oFdiv (.int a) (.int b) = some (.int z) := by
  unfold fdivO at h
  rw [oFdiv_int]
  split at h
  · rename_i q
    cases h
    rw [if_pos q]
  · cases h
variable {t1 t2 : KT Int}
theorem sk_add (h1 : SK ρ f D.int t1) (h2 : SK ρ g D.int t2) : SK ρ (eBin oAdd f g) D.int (fun β k => t1 β fun a => t2 β fun b => k (a + b)) := sk_bin (fun a b => a + b) (fun _ _ => rfl) h1 h2
theorem sk_sub (h1 : SK ρ f D.int t1) (h2 : SK ρ g D.int t2) : SK ρ (eBin oSub f g) D.int (fun β k => t1 β fun a => t2 β fun b => k (a - b)) := sk_bin (fun a b => a - b) (fun _ _ => rfl) h1 h2
theorem sk_mul (h1 : SK ρ f D.int t1) (h2 : SK ρ g D.int t2) : SK ρ (eBin oMul f g) D.int (fun β k => t1 β fun a => t2 β fun b => (mulO a b).bind k) := sk_binP mulO mul_ok h1 h2
theorem sk_mod (h1 : SK ρ f D.int t1) (h2 : SK ρ g D.int t2) : SK ρ (eBin oMod f g) D.int (fun β k => t1 β fun a => t2 β fun b => (modO a b).bind k) := sk_binP modO mod_ok h1 h2
theorem sk_fdiv (h1 : SK ρ f D.int t1) (h2 : SK ρ g D.int t2) : SK ρ (eBin oFdiv f g) D.int (fun β k => t1 β fun a => t2 β fun b => (fdivO a b).bind k) := sk_binP fdivO fdiv_ok h1 h2
/-- with a written number -/
theorem sk_mulR (c : Int) (hc : -18446744073709551616 < c ∧ c < 18446744073709551616) (h1 : SK ρ f D.int t1) : SK ρ (eBin oMul f (eC (.int c))) D.int (fun β k => t1 β fun a => k (a * c)) :=
  fun β k b q => by
    obtain ⟨x, e1, q⟩ := h1 β _ b q
    exact ⟨x * c, by rw [eBin_x, e1, Option.bind_some, eC_x, Option.bind_some, oMul_b hc], q⟩
theorem sk_mulL (c : Int) (hc : -18446744073709551616 < c ∧ c < 18446744073709551616) (h1 : SK ρ f D.int t1) : SK ρ (eBin oMul (eC (.int c)) f) D.int (fun β k => t1 β fun a => k (c * a)) :=
  fun β k b q => by
    obtain ⟨x, e1, q⟩ := h1 β _ b q
    exact ⟨c * x, by rw [eBin_x, eC_x, Option.bind_some, e1, Option.bind_some, oMul_a hc], q⟩
theorem sk_modR (c : Int) (hc : 0 < c) (h1 : SK ρ f D.int t1) : SK ρ (eBin oMod f (eC (.int c))) D.int (fun β k => t1 β fun a => k (a % c)) :=
  fun β k b q => by
    obtain ⟨x, e1, q⟩ := h1 β _ b q
    exact ⟨x % c, by rw [eBin_x, e1, Option.bind_some, eC_x, Option.bind_some, oMod_p hc], q⟩
theorem sk_fdivR (c : Int) (hc : 0 < c ∧ c < 1073741824) (h1 : SK ρ f D.int t1) : SK ρ (eBin oFdiv f (eC (.int c))) D.int (fun β k => t1 β fun a => k (a / c)) :=
  fun β k b q => by
    obtain ⟨x, e1, q⟩ := h1 β _ b q
    exact ⟨x / c, by rw [eBin_x, e1, Option.bind_some, eC_x, Option.bind_some, oFdiv_p hc], q⟩
theorem sk_powC (a b c : Int) (h : oPow (.int a) (.int b) = some (.int c)) : SK ρ (eBin oPow (eC (.int a)) (eC (.int b))) D.int (fun _ k => k c) := fun β k z q => ⟨c, by rw [eBin_x, eC_x, eC_x]; exact h, q⟩
/-- comparisons -/
theorem sk_lt (h1 : SK ρ f D.int t1) (h2 : SK ρ g D.int t2) : SK ρ (eBin oLt f g) D.bl (fun β k => t1 β fun a => t2 β fun b => k (decide (a < b))) := sk_bin (fun a b => decide (a < b)) (fun _ _ => rfl) h1 h2
theorem sk_le (h1 : SK ρ f D.int t1) (h2 : SK ρ g D.int t2) : SK ρ (eBin oLe f g) D.bl (fun β k => t1 β fun a => t2 β fun b => k (decide (a ≤ b))) := sk_bin (fun a b => decide (a ≤ b)) (fun _ _ => rfl) h1 h2
theorem sk_gt (h1 : SK ρ f D.int t1) (h2 : SK ρ g D.int t2) : SK ρ (eBin oGt f g) D.bl (fun β k => t1 β fun a => t2 β fun b => k (decide (b < a))) := sk_bin (fun a b => decide (b < a)) (fun _ _ => rfl) h1 h2
theorem sk_ge (h1 : SK ρ f D.int t1) (h2 : SK ρ g D.int t2) : SK ρ (eBin oGe f g) D.bl (fun β k => t1 β fun a => t2 β fun b => k (decide (b ≤ a))) := sk_bin (fun a b => decide (b ≤ a)) (fun _ _ => rfl) h1 h2
end
/-- == of such data -/
structure EqOk {α : Type} [DecidableEq α] (e : α → D) : Prop where
  eq : ∀ a b, deq (e a) (e b) = some (decide (a = b))
section
variable {α γ δ ε β : Type} [DecidableEq α] [DecidableEq γ] {ρ : Env} {f g : Ef} {e : α → D} {t1 t2 : KT α} {n : Nat}
theorem sk_eq (E : EqOk e) (h1 : SK ρ f e t1) (h2 : SK ρ g e t2) : SK ρ (eBin oEq f g) D.bl (fun β k => t1 β fun a => t2 β fun b => k (decide (a = b))) := sk_bin (fun a b => decide (a = b)) (fun a b => by
  unfold oEq
  rw [E.eq]
  rfl) h1 h2
theorem eqok_int : EqOk D.int := ⟨fun _ _ => rfl⟩
end
end Fw
namespace Fw
open PySem PySem.Spec PyProof.Rows L2
section
variable {α γ δ ε β σ J : Type} {ρ : Env} {f g h : Ef} {fs gs : Af} {e ea : α → D} {eb : γ → D} {ec : δ → D} {fe : α → List D} {t : KT α} {R : β → Out → Prop} {F G : Sf} {t1 t2 : KT Int}
theorem sk_isN {t : KT (Option α)} (hn : ∀ a, isNonD (e a) = false) (h : SK ρ f (encO e) t) : SK ρ (eBin oIsN f (eC .non)) D.bl (fun β k => t β fun o => k o.isNone) := fun β k b q => by
  obtain ⟨x, e1, q⟩ := h β _ b q
  refine ⟨_, ?_, q⟩
  rw [eBin_x, e1, Option.bind_some, eC_x, Option.bind_some, oIsN_x]
  cases x with
  | none => rfl
  | some a =>
    rw [encO_some, hn]
    rfl
theorem sk_isi (c : Bool) {T : D} (hT : g ρ = some T) (ho : ∀ a, oIsi [e a, T] = some (.bl c)) (h : SK ρ f e t) : SK ρ (eArgs oIsi (aCons f (aCons g aNil))) D.bl (fun β k => t β fun _ => k c) := fun β k b q => by
  obtain ⟨x, e1, q⟩ := h β _ b q
  refine ⟨_, ?_, q⟩
  simp only [eArgs_x, aCons_x, aNil_x, e1, hT, Option.bind_some, Option.map_some, ho]
theorem sk_lenL {t : KT (List α)} (h : SK ρ f (encL e) t) : SK ρ (eArgs oLen (aCons f aNil)) D.int (fun β k => t β fun xs => k (xs.length : Int)) := sk_a1 (fun xs => (xs.length : Int)) (fun a => by simp [encL]) h
theorem sk_lenF {t : KT (List Int)} (h : SK ρ f encF t) : SK ρ (eArgs oLen (aCons f aNil)) D.int (fun β k => t β fun xs => k (xs.length : Int)) := sk_a1 (fun xs => (xs.length : Int)) (fun a => by simp [encF]) h
theorem sk_int (h : SK ρ f D.int t1) : SK ρ (eArgs oToInt (aCons f aNil)) D.int t1 := sk_a1 (fun a => a) (fun _ => rfl) h
theorem sk_max2 (h1 : SK ρ f D.int t1) (h2 : SK ρ g D.int t2) : SK ρ (eArgs oMax2 (aCons f (aCons g aNil))) D.int (fun β k => t1 β fun a => t2 β fun b => k (max a b)) := sk_a2 (fun a b => max a b) (fun _ _ => rfl) h1 h2
theorem sk_minL {t : KT (List Int)} (h : SK ρ f (encL D.int) t) : SK ρ (eArgs oMinL (aCons f aNil)) D.int (fun β k => t β fun xs => (minI xs).bind k) := sk_a1P minI (fun a z q => by
  show ((((seqOf (.lst (a.map D.int))).bind intsOf).bind minI).map D.int) = _
  rw [seq_lst, Option.bind_some, intsOf_map, Option.bind_some, q]
  rfl) h
def catO (xs ys : List α) : Option (List α) := if xs.length + ys.length ≤ 16777216 then some (xs ++ ys) else none
theorem cat_some {xs ys zs : List α} (h : catO xs ys = some zs) : xs.length + ys.length ≤ 16777216 ∧ zs = xs ++ ys := by
  unfold catO at h
  split at h
  · rename_i q
    cases h
    exact ⟨q, rfl⟩
  · cases h
theorem sf_cat {t t' : KT (List α)} (h1 : SK ρ f (encL e) t) (h2 : SK ρ g (encL e) t') : SF ρ (aBin oCatL f g) (List.map e) (fun β k => t β fun a => t' β fun b => (catO a b).bind k) := sf_binP catO (fun a b z q => by
  obtain ⟨q1, rfl⟩ := cat_some q
  show (if _ then _ else _) = _
  rw [if_pos (by rw [List.length_map, List.length_map]; exact q1), List.map_append]) h1 h2
theorem sk_call {Fn : List D → Ret} (p : α → Option δ) (hF : ∀ a r, p a = some r → Fw.toD (Fn (fe a)) = some (ec r)) (h : SF ρ fs fe t) : SK ρ (eCall Fn fs) ec (fun β k => t β fun a => (p a).bind k) := fun β k b q => by
  obtain ⟨x, e1, q⟩ := h β _ b q
  obtain ⟨z, e2, q⟩ := bnd q
  exact ⟨z, by rw [eCall_x, e1, Option.bind_some, hF x z e2], q⟩
theorem sk_callK {Fn : List D → Ret} {t' : KT γ} (p : α → γ → Option δ) (hF : ∀ a c r, p a c = some r → Fw.toD (Fn (fe a ++ [eb c])) = some (ec r)) (h : SF ρ fs fe t) (h' : SK ρ g eb t') : SK ρ (eCallK Fn fs g) ec (fun β k => t β fun a => t' β fun c => (p a c).bind k) := fun β k b q => by
  obtain ⟨x, e1, q⟩ := h β _ b q
  obtain ⟨y, e2, q⟩ := h' β _ b q
  obtain ⟨z, e3, q⟩ := bnd q
  refine ⟨z, ?_, q⟩
  unfold eCallK
  rw [e1, Option.bind_some, e2, Option.bind_some, hF x y z e3]
theorem sk_callD {Fn : List D → Ret} {d : D} (p : α → Option δ) (hF : ∀ a r, p a = some r → Fw.toD (Fn (fe a ++ [d])) = some (ec r)) (h : SF ρ fs fe t) : SK ρ (eCallD Fn d fs) ec (fun β k => t β fun a => (p a).bind k) := fun β k b q => by
  obtain ⟨x, e1, q⟩ := h β _ b q
  obtain ⟨z, e3, q⟩ := bnd q
  refine ⟨z, ?_, q⟩
  unfold eCallD
  rw [e1, Option.bind_some, hF x z e3]
theorem toFr_toD {r : Ret} {w : Ow} (h : toFr r = some w) : Fw.toD r = some w.toD := by
  cases r with
  | ok d => cases h
  | fr u =>
    cases h
    rfl
  | stuck => cases h
end
end Fw
namespace Fw
open PySem PySem.Spec PyProof.Rows L2
@[simp] theorem it19 : isTy "NoneType" "bool" = some false := by decide
@[simp] theorem it20 : isTy "NoneType" "str" = some false := by decide
@[simp] theorem it21 : isTy "bool" "str" = some false := by decide
@[simp] theorem it22 : isTy "bool" "list" = some false := by decide
@[simp] theorem it23 : isTy "str" "int" = some false := by decide
@[simp] theorem it24 : isTy "str" "bool" = some false := by decide
@[simp] theorem it25 : isTy "str" "tuple" = some false := by decide
@[simp] theorem it26 : isTy "str" "list" = some false := by decide
@[simp] theorem it27 : isTy "tuple" "bool" = some false := by decide
@[simp] theorem it28 : isTy "tuple" "str" = some false := by decide
@[simp] theorem it29 : isTy "list" "bool" = some false := by decide
@[simp] theorem it30 : isTy "list" "str" = some false := by decide
/-- a value by its name -/
def letO {α β : Type} (a : α) (k : α → Option β) : Option β := k a
@[simp] theorem letO_x {α β : Type} (a : α) (k : α → Option β) : letO a k = k a := rfl
@[reducible] def encTu {α : Type} (fe : α → List D) (a : α) : D := .tup (fe a)
@[reducible] def encLi {α : Type} (fe : α → List D) (a : α) : D := .lst (fe a)
section
variable {α γ δ β σ J : Type} {ρ : Env} {f g : Ef} {fs : Af} {e : α → D} {t : KT α} {R : β → Out → Prop} {F G : Sf}
theorem sk_let (h : SK ρ f e t) : SK ρ f e (fun β k => t β fun a => letO a k) := h
theorem sf_let {fe : α → List D} (h : SF ρ fs fe t) : SF ρ fs fe (fun β k => t β fun a => letO a k) := h
theorem map_get : ∀ {l : List (Option α)} {z : List α}, mapO (fun z => z) l = some z → z.map e = l.map (encO e)
  | [], z, h => by
    cases h
    rfl
  | o :: l, z, h => by
    obtain ⟨x, e1, h⟩ := bnd h
    obtain ⟨y, e2, h⟩ := bnd h
    cases h
    rw [List.map_cons, List.map_cons, map_get e2, show o = some x from e1]
    rfl
theorem encL_get (l : List (Option α)) (z : List α) (h : mapO (fun z => z) l = some z) : encL e z = encL (encO e) l := congrArg D.lst (map_get h)
end
end Fw
namespace Fw
open PySem PySem.Spec PyProof.Rows L2
abbrev KX (α ν : Type) := ∀ β : Type, (α → ν → Option β) → Option β
end Fw
namespace Fw
open PySem PySem.Spec PyProof.Rows L2
inductive Tr where
  | nd (t : Bool) (cs : List Tr)
def Tr.kids : Tr → List Tr
  | .nd _ cs => cs
inductive RT where
  | nd (cs : List RT)
def RT.kids : RT → List RT
  | .nd cs => cs
end Fw
namespace Fw
open PySem PySem.Spec PyProof.Rows L2
end Fw
namespace Fw
open PySem PySem.Spec PyProof.Rows L2
end Fw
namespace Fw
open PySem PySem.Spec PyProof.Rows L2
end Fw
namespace Fw
open PySem PySem.Spec PyProof.Rows L2
inductive PP where
  | mk (s : List Int) (ks : List PP) (us : List (List Int))
def PP.of (p : List Int × List (PP × List Int)) : PP := .mk p.1 (p.2.map fun q => q.1) (p.2.map fun q => q.2)
end Fw
namespace Fw
open PySem PySem.Spec PyProof.Rows L2
end Fw
namespace Fw
open PySem PySem.Spec PyProof.Rows L2
end Fw
namespace Fw
open PySem PySem.Spec PyProof.Rows L2
end Fw
namespace Fw
open PySem PySem.Spec PyProof.Rows L2
end Fw
namespace Fw
open PySem PySem.Spec PyProof.Rows L2
def uszT (n h : Int) (b : Option Int) : Option Int := if 0 < n ∧ n < 1048576 ∧ 0 ≤ h ∧ h ≤ 12 then (match b with
  | none => some ((treeZ h.toNat n.toNat none : Nat) : Int)
  | some k => if 0 ≤ k ∧ k ≤ 12 then some ((treeZ h.toNat n.toNat (some k.toNat) : Nat) : Int) else none) else none
theorem uszT_ok {n h : Int} {b : Option Int} {r : Int} (e : uszT n h b = some r) : toD (uszF [D.int n, D.int h, encO D.int b]) = some (D.int r) := by
  unfold uszT at e
  split at e
  · rename_i hr
    cases b with
    | none =>
      cases e
      unfold uszF
      dsimp only
      rw [if_pos hr]
      rfl
    | some k =>
      dsimp only at e
      split at e
      · rename_i hk
        cases e
        have hb : boZ (encO D.int (some k)) = some (some k.toNat) := by
          show (if 0 ≤ k ∧ k ≤ 12 then some (some k.toNat) else none) = _
          rw [if_pos hk]
        unfold uszF
        dsimp only
        rw [if_pos hr, hb]
        rfl
      · cases e
  · cases e
end Fw
namespace Fw
open PySem PySem.Spec PyProof.Rows L2
end Fw
namespace Fw
open PySem PySem.Spec PyProof.Rows L2
section
variable {α : Type} {ρ : Env} {f g : Ef} {fs : Af} {t1 t2 : KT Str} {ti : KT Int}
def bitsI (x : Int) : Int := ((Builtin.Int.intBits x : Nat) : Int)
theorem sk_bits (h : SK ρ f D.int ti) : SK ρ (e1o oBits f) D.int (fun β k => ti β fun x => k (bitsI x)) := fun β k b q => by
  obtain ⟨x, e1, q⟩ := h β _ b q
  refine ⟨bitsI x, ?_, q⟩
  unfold e1o
  rw [e1]
  rfl
end
end Fw
namespace Fw
open PySem PySem.Spec PyProof.Rows L2
end Fw
namespace Fw
open PySem PySem.Spec PyProof.Rows L2
def posO : Option Int → Bool
  | none => true
  | some k => decide (1 ≤ k)
def lszT (n h : Int) (b : Option Int) : Option Int := if posO b = true then uszT n h b else none
theorem lszT_ok {n h : Int} {b : Option Int} {r : Int} (e : lszT n h b = some r) : szD (D.int n) (D.int h) (encO D.int b) = some (D.int r) := by
  unfold lszT at e
  by_cases hp : posO b = true
  · rw [if_pos hp] at e
    have := uszT_ok e
    unfold szD
    rw [if_pos (by cases b with | none => rfl | some k => exact hp)]
    exact this
  · rw [if_neg hp] at e
    cases e
section
variable {α β : Type} {ρ : Env} {f g h : Ef} {t1 t2 : KT Int} {t3 : KT (Option Int)} {R : β → Out → Prop} {F : Sf}
theorem retOf_clO : ∀ o : Out, retOf (clO o) = retOf o
  | .nx _ => rfl
  | .bk _ => rfl
  | .ct _ => rfl
  | .rt _ _ => rfl
  | .rf _ _ => rfl
  | .ex _ _ _ => rfl
  | .stuck => rfl
theorem retD_C {e : α → D} {a : α} {o : Out} (h : RetD e a o) : RetD e a (clO o) := by
  unfold RetD at h ⊢
  rw [retOf_clO]
  exact h
theorem sb_memo (i : Nat) {t : Option β} (hx : (noX ρ && decide (i < ρ.length)) = true) (hR : ∀ b o, R b o → R b (clO o)) (h : SB R F (ρ.set i .xc) t) : SB R (sSeq (sMemo i F) sNext) ρ t := fun b q => by
  have := hR _ _ (h b q)
  rw [sSeq_x]
  unfold sMemo
  rw [hx]
  show R b ((clO (F (ρ.set i .xc))).next sNext)
  cases e : clO (F (ρ.set i .xc)) <;> rw [e] at this <;> exact this
end
end Fw
namespace Fw
open PySem PySem.Spec PyProof.Rows L2
def combT (a b : Int) : Option Int := if 0 ≤ a ∧ a < 1000000 ∧ 0 ≤ b ∧ b ≤ 9000 then some (PySem.W.mcComb a b) else none
def shlO (i j : Int) : Option Int := if 0 ≤ j ∧ j ≤ 1000000 ∧ i.natAbs < 18446744073709551616 then some (i * 2 ^ j.toNat) else none
def lszN (Ns : List Nat) (n h : Int) (b : Option Int) : Option Int := if n.toNat ∈ Ns then lszT n h b else none
section
variable {α β : Type} {ρ : Env} {f g h f1 f2 f3 : Ef} {t1 t2 t4 : KT Int} {t3 : KT (Option Int)} {R : β → Out → Prop}
theorem sk_comb (h1 : SK ρ f D.int t1) (h2 : SK ρ g D.int t2) : SK ρ (eArgs oComb (aCons f (aCons g aNil))) D.int (fun β k => t1 β fun a => t2 β fun b => (combT a b).bind k) := fun β k b q => by
  obtain ⟨x, e1, q⟩ := h1 β _ b q
  obtain ⟨y, e2, q⟩ := h2 β _ b q
  obtain ⟨z, e3, q⟩ := bnd q
  refine ⟨z, ?_, q⟩
  simp only [eArgs_x, aCons_x, aNil_x, e1, e2, Option.bind_some, Option.map_some]
  unfold combT at e3
  unfold oComb
  dsimp only
  split at e3
  · rename_i hr
    cases e3
    rw [if_pos hr]
  · cases e3
theorem sk_min3 (h1 : SK ρ f D.int t1) (h2 : SK ρ g D.int t2) (h4 : SK ρ h D.int t4) : SK ρ (eArgs oMin3 (aCons f (aCons g (aCons h aNil)))) D.int (fun β k => t1 β fun a => t2 β fun b => t4 β fun c => k (min (min a b) c)) := fun β k b q => by
  obtain ⟨x, e1, q⟩ := h1 β _ b q
  obtain ⟨y, e2, q⟩ := h2 β _ b q
  obtain ⟨z, e3, q⟩ := h4 β _ b q
  refine ⟨_, ?_, q⟩
  simp only [eArgs_x, aCons_x, aNil_x, e1, e2, e3, Option.bind_some, Option.map_some]
  rfl
theorem shl_ok (a b z : Int) (h : shlO a b = some z) : oShl (.int a) (.int b) = some (.int z) := by
  unfold shlO at h
  unfold oShl oInt
  dsimp only
  split at h
  · rename_i hr
    cases h
    rw [if_pos (decide_eq_true hr)]
  · cases h
theorem sk_shl (h1 : SK ρ f D.int t1) (h2 : SK ρ g D.int t2) : SK ρ (eBin oShl f g) D.int (fun β k => t1 β fun a => t2 β fun b => (shlO a b).bind k) := sk_binP shlO shl_ok h1 h2
theorem sk_szN (Ns : List Nat) (i : Nat) (hc : cellAt ρ i = .xc) (h1 : SK ρ f D.int t1) (h2 : SK ρ g D.int t2) (h3 : SK ρ h (encO D.int) t3) : SK ρ (eSzN Ns i f g h) D.int (fun β k => t1 β fun a => t2 β fun b => t3 β fun c => (lszN Ns a b c).bind k) := fun β k b q => by
  obtain ⟨a, e1, q⟩ := h1 β _ b q
  obtain ⟨c, e2, q⟩ := h2 β _ b q
  obtain ⟨d, e3, q⟩ := h3 β _ b q
  obtain ⟨r, e4, q⟩ := bnd q
  refine ⟨r, ?_, q⟩
  unfold lszN at e4
  split at e4
  · rename_i hlt
    unfold eSzN
    rw [hc]
    dsimp only
    rw [e1, Option.bind_some, e2, Option.bind_some, e3, Option.bind_some]
    dsimp only
    rw [if_pos hlt]
    exact lszT_ok e4
  · cases e4
theorem sb_memoN (i : Nat) {t : List Nat → Option β} {F : List Nat → Sf} (hx : (noX ρ && decide (i < ρ.length)) = true) (hR : ∀ b o, R b o → R b (clO o)) (h1 : SK ρ f1 D.int t1) (h2 : SK ρ f2 D.int t2) (h4 : SK ρ f3 D.int t4) (h : ∀ Ns, SB R (F Ns) (ρ.set i .xc) (t Ns)) :
    SB R (sSeq (sMemoN i (nsf3 f1 f2 f3) F) sNext) ρ (t1 β fun a => t2 β fun b => t4 β fun c => letO [a.toNat, b.toNat, c.toNat] fun Ns => t Ns) := fun b q => by
  obtain ⟨a, e1, q⟩ := h1 β _ b q
  obtain ⟨c, e2, q⟩ := h2 β _ b q
  obtain ⟨d, e3, q⟩ := h4 β _ b q
  have := sb_memo (F := F [a.toNat, c.toNat, d.toNat]) i hx hR (h [a.toNat, c.toNat, d.toNat]) b q
  rw [sSeq_x] at this ⊢
  have e : sMemoN i (nsf3 f1 f2 f3) F ρ = sMemo i (F [a.toNat, c.toNat, d.toNat]) ρ := by
    unfold sMemoN nsf3
    rw [e1, e2, e3]
    rfl
  rw [e]
  exact this
end
end Fw
namespace Lw
open PySem PySem.Spec PyProof.Rows L2 Fw
/-- it gives a value, and that value is such -/
def Ok {α : Type} (o : Option α) (P : α → Prop) : Prop := ∃ a, o = some a ∧ P a
section
variable {α β σ r γ : Type}
theorem Ok.bind {o : Option α} {k : α → Option β} {P : α → Prop} {Q : β → Prop} (h : Ok o P) (hk : ∀ a, P a → Ok (k a) Q) : Ok (o.bind k) Q := by
  obtain ⟨a, rfl, hp⟩ := h
  exact hk a hp
theorem Ok.bindE {o : Option α} {k : α → Option β} {a : α} {Q : β → Prop} (h : o = some a) (hk : Ok (k a) Q) : Ok (o.bind k) Q := by
  rw [h]
  exact hk
theorem Ok.mk {a : α} {P : α → Prop} (h : P a) : Ok (some a) P := ⟨a, rfl, h⟩
theorem Ok.of {o : Option α} {a : α} {P : α → Prop} (e : o = some a) (h : P a) : Ok o P := ⟨a, e, h⟩
theorem Ok.imp {o : Option α} {P Q : α → Prop} (h : Ok o P) (hi : ∀ a, P a → Q a) : Ok o Q := by
  obtain ⟨a, e, hp⟩ := h
  exact ⟨a, e, hi a hp⟩
theorem Ok.eq {o : Option α} {a : α} (h : Ok o (· = a)) : o = some a := by
  obtain ⟨b, e, rfl⟩ := h
  exact e
theorem ok_let {a : α} {k : α → Option β} {Q : β → Prop} (h : Ok (k a) Q) : Ok (letO a k) Q := h
theorem ok_ite {c : Prop} [Decidable c] {a b : Option α} {Q : α → Prop} (h1 : c → Ok a Q) (h2 : ¬c → Ok b Q) : Ok (if c then a else b) Q := by
  split
  · exact h1 ‹_›
  · exact h2 ‹_›
@[simp] theorem bindSome (o : Option α) : (o.bind fun x => some x) = o := by cases o <;> rfl
@[simp] theorem sumElim_inl {f : α → γ} {g : β → γ} {a : α} : Sum.elim f g (Sum.inl a) = f a := rfl
@[simp] theorem sumElim_inr {f : α → γ} {g : β → γ} {b : β} : Sum.elim f g (Sum.inr b) = g b := rfl
@[simp] theorem mapO_nil {f : α → Option β} : mapO f [] = some [] := rfl
@[simp] theorem filtO_nil {f : α → Option Bool} : filtO f [] = some [] := rfl
/-- a loop's state, by what has been taken -/
theorem ok_for {f : σ → α → Option σ} (I : List α → σ → Prop) {xs : List α} {s0 : σ} (h0 : I [] s0) (hs : ∀ (pre : List α) (x : α) (post : List α) (s : σ), xs = pre ++ x :: post → I pre s → Ok (f s x) (I (pre ++ [x]))) : Ok (forO f xs s0) (I xs) := by
  have key : ∀ (post pre : List α) (s : σ), xs = pre ++ post → I pre s → Ok (forO f post s) (I xs) := by
    intro post
    induction post with
    | nil =>
      intro pre s e h
      rw [List.append_nil] at e
      subst e
      exact ⟨s, rfl, h⟩
    | cons x post ih =>
      intro pre s e h
      exact Ok.bind (hs pre x post s e h) fun s1 h1 => ih (pre ++ [x]) s1 (by simp [e]) h1
  exact key xs [] s0 rfl h0
theorem for_eq {f : σ → α → Option σ} {g : σ → α → σ} : ∀ {xs : List α} {s0 : σ}, (∀ x ∈ xs, ∀ s, f s x = some (g s x)) → forO f xs s0 = some (xs.foldl g s0)
  | [], _, _ => rfl
  | x :: xs, s0, h => by
    show (f s0 x).bind _ = _
    rw [h x (List.mem_cons_self ..), Option.bind_some, for_eq (xs := xs) fun y hy => h y (List.mem_cons_of_mem _ hy)]
    rfl
@[simp] theorem forO_nil {f : σ → α → Option σ} {s : σ} : forO f [] s = some s := rfl
theorem getI_nat {xs : List α} {i : Nat} : getI xs (i : Int) = xs[i]? := by
  unfold getI
  rw [if_pos (by omega)]
  rfl
@[simp] theorem getI_zero {xs : List α} : getI xs 0 = xs[0]? := getI_nat (i := 0)
@[simp] theorem getI_one {xs : List α} : getI xs 1 = xs[1]? := getI_nat (i := 1)
@[simp] theorem getI_lit {xs : List α} {i : Nat} : getI xs (no_index (OfNat.ofNat i : Int)) = xs[i]? := getI_nat (i := i)
theorem getI_pos {xs : List α} {i : Int} (h : 0 ≤ i) : getI xs i = xs[i.toNat]? := if_pos h
theorem ok_getI {xs : List α} {i : Int} (h : 0 ≤ i ∧ i < (xs.length : Int)) : ∃ x, getI xs i = some x ∧ x ∈ xs := by
  rw [getI_pos h.1]
  have hn : i.toNat < xs.length := by omega
  exact ⟨xs[i.toNat], List.getElem?_eq_getElem hn, List.getElem_mem hn⟩
theorem appO_lt {xs : List α} {x : α} (h : xs.length < 16777216) : appO xs x = some (xs ++ [x]) := if_pos h
theorem rgI_rg (n : Nat) : rgI 0 n = rg n := by
  unfold rgI rg
  simp
theorem rng1O_n {n : Nat} (h : n ≤ 1000000000) : rng1O (n : Int) = some (rg n) := by
  unfold rng1O okR
  rw [if_pos (by simp; omega), Int.toNat_natCast, rgI_rg]
theorem rng1O_i {n : Int} (h : n ≤ 1000000000) (h0 : -1000000000 ≤ n) : rng1O n = some (rg n.toNat) := by
  unfold rng1O okR
  rw [if_pos (by simp; omega), rgI_rg]
@[simp] theorem rgI_len {lo : Int} {n : Nat} : (rgI lo n).length = n := by simp [rgI]
theorem modO_pos {a b : Int} (h : 0 < b) : modO a b = some (a % b) := if_pos h
theorem fdivO_pos {a b : Int} (h : 0 < b ∧ b < 1073741824) : fdivO a b = some (a / b) := if_pos h
theorem mulO_l {a b : Int} (h : -18446744073709551616 < a ∧ a < 18446744073709551616) : mulO a b = some (a * b) := if_pos (mulC_a h)
theorem mulO_r {a b : Int} (h : -18446744073709551616 < b ∧ b < 18446744073709551616) : mulO a b = some (a * b) := if_pos (mulC_b h)
@[simp] theorem enumO_len {xs : List α} : (enumO xs).length = xs.length := by simp [enumO]
end
theorem ret_bl {r : Ret} {b : Bool} (h : Fw.toD r = some (.bl b)) : r = .ok (.bl b) := by
  cases r with
  | ok d =>
    cases h
    rfl
  | fr o =>
    cases o <;> cases h
  | stuck => cases h
end Lw
namespace Lw
open PySem PySem.Spec PyProof.Rows L2 Fw
/-- _law_cell|fl,int -> int -/
def p_law_cell_FI (a_script : (List Int)) (a_k : Int) : Option Int :=
 if (decide (a_k < (a_script.length : Int))) = true then ((getI a_script a_k).bind fun x1 =>
 some x1) else
 letO 17 fun (x2 : Int) =>
 (forO (fun (s5 : Int) (x3 : Int) =>
 letO (((s5 * 31) + (x3 % 1000003)) % 1000003) fun (x7 : Int) =>
 some x7) a_script x2).bind fun (s8 : Int) =>
 (mulO (s8 + 7) (a_k + 3)).bind fun x10 =>
 some ((x10 * 69621) % 2147483647)
/-- _law_digits|int,list(int) -> list(int) -/
def p_law_digits_ILI (a_cell : Int) (a_sizes : (List Int)) : Option (List Int) :=
 letO [] fun (x1 : (List Int)) =>
 letO a_cell fun (x2 : Int) =>
 if (decide (1000000000000000000 ≤ x2)) = true then (letO (x2 - 1000000000000000000) fun (x3 : Int) =>
 (forO (fun (s9 : ((List Int) × Int)) (x4 : Int) =>
 (modO s9.2 x4).bind fun x14 =>
 (appO s9.1 x14).bind fun x11 =>
 (fdivO s9.2 x4).bind fun x13 =>
 letO x13 fun (x12 : Int) =>
 some (x11, x12)) a_sizes (x1, x3)).bind fun (s15 : ((List Int) × Int)) =>
 some s15.1) else
 letO (x2 % 2147483629) fun (x17 : Int) =>
 (rng1O (a_sizes.length : Int)).bind fun x35 =>
 (forO (fun (s25 : ((List Int) × Int)) (x18 : Int) =>
 letO ((((s25.2 * 48271) + (974711 * x18)) + 12345) % 2147483647) fun (x27 : Int) =>
 (mulO x27 ((x27 / 65537) + 3)).bind fun x32 =>
 letO (x32 % 2147483629) fun (x28 : Int) =>
 (getI a_sizes x18).bind fun x30 =>
 (modO (x28 / 19) x30).bind fun x31 =>
 (appO s25.1 x31).bind fun x29 =>
 some (x29, x27)) x35 (x1, x17)).bind fun (s33 : ((List Int) × Int)) =>
 some s33.1
theorem cell_ty (ns : List Int) (k : Int) (hk : 0 ≤ k ∧ k ≤ 100000) : ∃ c, p_law_cell_FI ns k = some c := by
  unfold p_law_cell_FI
  by_cases h : k < (ns.length : Int)
  · rw [if_pos (decide_eq_true h)]
    obtain ⟨x, e, _⟩ := ok_getI (xs := ns) ⟨hk.1, h⟩
    exact ⟨x, by rw [e]; rfl⟩
  · rw [if_neg (by simpa using h), letO_x, for_eq (g := fun s x => ((s * 31) + (x % 1000003)) % 1000003)]
    · rw [Option.bind_some, mulO_r (by omega), Option.bind_some]
      exact ⟨_, rfl⟩
    · intro x _ s
      rfl
/-- digits of these sizes -/
inductive Dig : List Int → List Int → Prop where
  | nil : Dig [] []
  | cons {s d : Int} {ss ds : List Int} (h : 0 ≤ d ∧ d < s) (t : Dig ss ds) : Dig (s :: ss) (d :: ds)
theorem Dig.len : ∀ {ss ds : List Int}, Dig ss ds → ds.length = ss.length
  | _, _, .nil => rfl
  | _, _, .cons _ t => by simp [t.len]
theorem Dig.get : ∀ {ss ds : List Int}, Dig ss ds → ∀ {i : Nat} {s : Int}, ss[i]? = some s → ∃ d, ds[i]? = some d ∧ 0 ≤ d ∧ d < s
  | _, _, .nil, i, s, e => by simp at e
  | _, _, .cons h t, 0, s, e => by
    simp at e
    subst e
    exact ⟨_, rfl, h⟩
  | _, _, .cons h t, i + 1, s, e => by
    obtain ⟨d, h1, h2⟩ := t.get (i := i) (s := s) (by simpa using e)
    exact ⟨d, by simpa using h1, h2⟩
theorem Dig.snoc : ∀ {ss ds : List Int} {s d : Int}, Dig ss ds → 0 ≤ d ∧ d < s → Dig (ss ++ [s]) (ds ++ [d])
  | _, _, s, d, .nil, h => .cons h .nil
  | _, _, s, d, .cons h' t, h => .cons h' (t.snoc h)
theorem Dig.same : ∀ {n : Nat} {s : Int} {ds : List Int}, Dig (List.replicate n s) ds → ds.length = n ∧ ∀ d ∈ ds, 0 ≤ d ∧ d < s
  | 0, s, _, .nil => ⟨rfl, fun d h => nomatch h⟩
  | n + 1, s, _, .cons h t => by
    obtain ⟨h1, h2⟩ := t.same
    refine ⟨by simp [h1], fun d hd => ?_⟩
    rcases List.mem_cons.mp hd with rfl | hd
    · exact h
    · exact h2 d hd
theorem digits_ty (c : Int) (sizes : List Int) (h : ∀ s ∈ sizes, 0 < s ∧ s < 1073741824) (hl : sizes.length ≤ 100000) : ∃ ds, p_law_digits_ILI c sizes = some ds ∧ Dig sizes ds := by
  unfold p_law_digits_ILI
  rw [letO_x, letO_x]
  show Ok _ _
  refine ok_ite (fun hc => ?_) fun hc => ?_
  · refine ok_let (Ok.bind (ok_for (fun (pre : List Int) (s : List Int × Int) => Dig pre s.1) .nil fun pre x post s e hI => ?_) fun s hs => Ok.mk hs)
    have hx := h x (by rw [e]; simp)
    have hlen : s.1.length < 16777216 := by
      rw [hI.len]
      rw [e] at hl
      simp at hl
      omega
    rw [modO_pos hx.1, Option.bind_some, appO_lt hlen, Option.bind_some, fdivO_pos hx, Option.bind_some, letO_x]
    refine Ok.mk (hI.snoc ⟨Int.emod_nonneg _ (by omega), Int.emod_lt_of_pos _ hx.1⟩)
  · rw [letO_x, rng1O_n (by omega), Option.bind_some]
    refine Ok.bind (ok_for (fun (pre : List Int) (s : List Int × Int) => Dig (sizes.take pre.length) s.1 ∧ 0 ≤ s.2 ∧ s.2 < 2147483647) ⟨.nil, by dsimp only; omega⟩ fun pre x post s e hI => ?_) fun s hs => Ok.mk ?_
    · obtain ⟨h1, h2, h3⟩ := hI
      have hlt : pre.length < sizes.length := by
        have := congrArg List.length e
        rw [rg_len] at this
        simp at this
        omega
      have hx : x = (pre.length : Int) := by
        have h5 : (rg sizes.length)[pre.length]? = some x := by rw [e]; simp
        exact (rg_get h5).2
      subst hx
      have hs := h sizes[pre.length] (List.getElem_mem hlt)
      have hlen : s.1.length < 16777216 := by
        rw [h1.len, List.length_take]
        omega
      dsimp only [letO]
      rw [mulO_l (by omega), Option.bind_some, getI_nat, List.getElem?_eq_getElem hlt, Option.bind_some, modO_pos hs.1, Option.bind_some, appO_lt hlen, Option.bind_some]
      refine Ok.mk ⟨?_, ?_⟩
      · rw [List.length_append, List.length_singleton, List.take_succ_eq_append_getElem hlt]
        exact h1.snoc ⟨Int.emod_nonneg _ (by omega), Int.emod_lt_of_pos _ hs.1⟩
      · dsimp only
        omega
    · have := hs.1
      rw [rg_len, List.take_length] at this
      exact this
/-- a cell's digits -/
theorem drawn (ns : List Int) (k : Int) (hk : 0 ≤ k ∧ k ≤ 100000) (sizes : List Int) (h : ∀ s ∈ sizes, 0 < s ∧ s < 1073741824) (hl : sizes.length ≤ 100000) : ∃ c ds, p_law_cell_FI ns k = some c ∧ p_law_digits_ILI c sizes = some ds ∧ Dig sizes ds := by
  obtain ⟨c, e⟩ := cell_ty ns k hk
  obtain ⟨ds, e2, h2⟩ := digits_ty c sizes h hl
  exact ⟨c, ds, e, e2, h2⟩
end Lw
namespace Lw
open PySem PySem.Spec PyProof.Rows L2 Fw
/-- _law_parameters|fl,int -> lst(int,int,opt(int),bool) -/
def p_law_parameters_FI (a_script : (List Int)) (a_at : Int) : Option (Int × Int × (Option Int) × Bool) :=
 (p_law_cell_FI a_script a_at).bind fun x44 =>
 (p_law_digits_ILI x44 [6, 1000000, 13, 5, 12, 3, 2, 20, 3]).bind fun x45 =>
 letO x45 fun (x1 : (List Int)) =>
 (getI x1 1).bind fun x40 =>
 (getI x1 0).bind fun x41 =>
 (getI [12, 1000, 1, 1, 1000000, 1000000] x41).bind fun x42 =>
 (modO x40 x42).bind fun x43 =>
 letO (1 + x43) fun (x2 : Int) =>
 (getI x1 0).bind fun x37 =>
 (if (decide (x37 = 2)) = true then some true else (getI x1 0).bind fun x39 =>
 some (decide (x39 = 3))).bind fun x38 =>
 (if x38 = true then letO 1 fun (x15 : Int) =>
 (getI x1 7).bind fun x25 =>
 (rng1O x25).bind fun x26 =>
 (forO (fun (s18 : Int) (x16 : Int) =>
 letO (2 * s18) fun (x20 : Int) =>
 some x20) x26 x15).bind fun (s21 : Int) =>
 (getI x1 8).bind fun x24 =>
 letO (max 1 ((s21 + x24) - 1)) fun (x23 : Int) =>
 some x23 else some x2).bind fun (s27 : Int) =>
 (getI x1 5).bind fun x32 =>
 (getI x1 5).bind fun x33 =>
 (getI x1 4).bind fun x34 =>
 (getI x1 3).bind fun x35 =>
 (getI [none, none, (some (2 + x32)), (some (2 + x33)), (some (1 + x34))] x35).bind fun x36 =>
 letO x36 fun (x29 : (Option Int)) =>
 (getI x1 2).bind fun x30 =>
 (getI x1 6).bind fun x31 =>
 some (s27, x30, x29, (decide (x31 = 0)))
/-- _law_binomial|int,int -> int -/
def p_law_binomial_II (a_a : Int) (a_b : Int) : Option Int :=
 letO [1] fun (x1 : (List Int)) =>
 (rng1O a_a).bind fun x26 =>
 (forO (fun (s12 : (List Int)) (x2 : Int) =>
 (rng1O ((s12.length : Int) - 1)).bind fun x16 =>
 (szO x16).bind fun x17 =>
 (mapO (fun (y14 : Int) => (getI s12 y14).bind fun x18 =>
 (getI s12 (y14 + 1)).bind fun x19 =>
 some (x18 + x19)) x17).bind fun x20 =>
 (catO [1] x20).bind fun x21 =>
 (catO x21 [1]).bind fun x22 =>
 letO x22 fun (x15 : (List Int)) =>
 some x15) x26 x1).bind fun (s23 : (List Int)) =>
 (getI s23 a_b).bind fun x25 =>
 some x25
/-- _law_bound|int,int,opt(int) -> int -/
def p_law_bound_IIOI (a_n : Int) (a_h : Int) (a_k : (Option Int)) : Option Int :=
 if (decide (a_h = 0)) = true then (some 1) else
 letO 1 fun (x1 : Int) =>
 letO 0 fun (x2 : Int) =>
 (rng1O 64).bind fun x29 =>
 (forB (fun (s6 : (Int × Int)) (x3 : Int) =>
 if (decide (a_n < (2 * s6.1))) = true then (some (.stop (s6.1, s6.2))) else
 letO (2 * s6.1) fun (x8 : Int) =>
 letO (s6.2 + 1) fun (x9 : Int) =>
 some (.go (x8, x9))) x29 (x1, x2)).bind fun (s10 : (Int × Int)) =>
 if a_k.isNone = true then ((p_law_binomial_II ((s10.2 + a_h) - 1) (a_h - 1)).bind fun x12 =>
 (mulO a_n x12).bind fun x13 =>
 some x13) else
 (a_k).bind fun x28 =>
 letO (min (min x28 (a_h + 1)) (s10.2 + 1)) fun (x14 : Int) =>
 letO a_n fun (x15 : Int) =>
 (rng1O (x14 - 1)).bind fun x27 =>
 (forO (fun (s18 : Int) (x16 : Int) =>
 letO (2 * s18) fun (x20 : Int) =>
 some x20) x27 x15).bind fun (s21 : Int) =>
 (p_law_binomial_II a_h (x14 - 1)).bind fun x23 =>
 (mulO s21 x23).bind fun x24 =>
 (p_law_binomial_II ((s10.2 + x14) - 1) (x14 - 1)).bind fun x25 =>
 (mulO x24 x25).bind fun x26 =>
 some x26
/-- universal_size|int,int,opt(int) -> int -/
def p_universal_size_IIOI (a_leaves : Int) (a_height : Int) (a_branching : Option Int) : Option Int :=
 uszT a_leaves a_height a_branching
/-- size_bound|int,int,opt(int) -> int -/
def p_size_bound_IIOI (a_leaves : Int) (a_height : Int) (a_branching : (Option Int)) : Option Int :=
 if (decide (a_height = 0)) = true then (some 1) else
 letO ((bitsI a_leaves) - 1) fun (x1 : Int) =>
 if a_branching.isNone = true then ((combT ((x1 + a_height) - 1) (a_height - 1)).bind fun x2 =>
 (mulO a_leaves x2).bind fun x3 =>
 some x3) else
 (mapO (fun z => z) [a_branching, (some (a_height + 1)), (some (x1 + 1))]).bind fun x10 =>
 (minI x10).bind fun x11 =>
 letO (x11 - 1) fun (x4 : Int) =>
 (shlO a_leaves x4).bind fun x5 =>
 (combT a_height x4).bind fun x6 =>
 (mulO x5 x6).bind fun x7 =>
 (combT (x1 + x4) x4).bind fun x8 =>
 (mulO x7 x8).bind fun x9 =>
 some x9
/-- _law_whole|int -> bool -/
def p_law_whole_I (a_value : Int) : Option Bool :=
 some (true && (!false))
/-- _law_right|lst(int,int,opt(int),bool),int,int -> bool -/
def p_law_right_HIIOIBEII (a_drawn : (Int × Int × (Option Int) × Bool)) (a_size : Int) (a_bound : Int) : Option Bool :=
 letO a_drawn.1 fun (x1 : Int) =>
 letO a_drawn.2.1 fun (x2 : Int) =>
 (if (a_drawn.2.2.1.isNone && a_drawn.2.2.2) = true then (p_universal_size_IIOI x1 x2 none).bind fun x22 =>
 letO x22 fun (x19 : Int) =>
 (p_size_bound_IIOI x1 x2 none).bind fun x21 =>
 letO x21 fun (x20 : Int) =>
 some (x19, x20) else (p_universal_size_IIOI x1 x2 a_drawn.2.2.1).bind fun x26 =>
 letO x26 fun (x23 : Int) =>
 (p_size_bound_IIOI x1 x2 a_drawn.2.2.1).bind fun x25 =>
 letO x25 fun (x24 : Int) =>
 some (x23, x24)).bind fun (s27 : (Int × Int)) =>
 (p_law_whole_I s27.1).bind fun x29 =>
 (if (!x29) = true then some true else (p_law_whole_I s27.2).bind fun x31 =>
 some (!x31)).bind fun x30 =>
 if x30 = true then (some false) else
 some ((decide (s27.1 = a_size)) && ((decide (s27.2 = a_bound)) && (decide (s27.1 ≤ s27.2))))
/-- _law_utmost|fl,int -> lst(int,int,opt(int),bool) -/
def p_law_utmost_FI (a_script : (List Int)) (a_at : Int) : Option (Int × Int × (Option Int) × Bool) :=
 (p_law_cell_FI a_script a_at).bind fun x14 =>
 (p_law_digits_ILI x14 [3, 1000, 3, 13, 5, 12, 2]).bind fun x15 =>
 letO x15 fun (x1 : (List Int)) =>
 (getI x1 5).bind fun x10 =>
 (getI x1 5).bind fun x11 =>
 (getI x1 4).bind fun x12 =>
 (getI [none, (some 12), (some 11), (some (1 + x10)), (some (1 + x11))] x12).bind fun x13 =>
 letO x13 fun (x2 : (Option Int)) =>
 (getI x1 1).bind fun x3 =>
 (getI x1 0).bind fun x4 =>
 (getI [1000000, 999999, (1000000 - x3)] x4).bind fun x5 =>
 (getI x1 3).bind fun x6 =>
 (getI x1 2).bind fun x7 =>
 (getI [12, 11, x6] x7).bind fun x8 =>
 (getI x1 6).bind fun x9 =>
 some (x5, x8, x2, (decide (x9 = 0)))
/-- law|fl -> bool -/
def p_law (a_script : (List Int)) : Option Bool :=
 (p_law_parameters_FI a_script 0).bind fun x25 =>
 letO x25 fun (x1 : (Int × Int × (Option Int) × Bool)) =>
 (p_law_parameters_FI a_script 1).bind fun x24 =>
 letO x24 fun (x2 : (Int × Int × (Option Int) × Bool)) =>
 (p_law_utmost_FI a_script 3).bind fun x23 =>
 letO [(x1.1 : Int).toNat, (x2.1 : Int).toNat, (x23.1 : Int).toNat] fun (Ns : List Nat) =>
 (lszN Ns x1.1 x1.2.1 x1.2.2.1).bind fun x3 =>
 letO x3 fun (x4 : Int) =>
 (lszN Ns x2.1 x2.2.1 x2.2.2.1).bind fun x5 =>
 letO x5 fun (x6 : Int) =>
 (p_law_bound_IIOI x1.1 x1.2.1 x1.2.2.1).bind fun x22 =>
 letO x22 fun (x7 : Int) =>
 (p_law_bound_IIOI x2.1 x2.2.1 x2.2.2.1).bind fun x21 =>
 letO x21 fun (x8 : Int) =>
 (p_law_right_HIIOIBEII x1 x4 x7).bind fun x18 =>
 (if (!x18) = true then some true else (p_law_right_HIIOIBEII x2 x6 x8).bind fun x20 =>
 some (!x20)).bind fun x19 =>
 if x19 = true then (some false) else
 (p_law_cell_FI a_script 2).bind fun x17 =>
 if (decide ((x17 % 24) = 0)) = true then ((p_law_utmost_FI a_script 3).bind fun x15 =>
 letO x15 fun (x9 : (Int × Int × (Option Int) × Bool)) =>
 (lszN Ns x9.1 x9.2.1 x9.2.2.1).bind fun x10 =>
 letO x10 fun (x11 : Int) =>
 (p_law_bound_IIOI x9.1 x9.2.1 x9.2.2.1).bind fun x13 =>
 (p_law_right_HIIOIBEII x9 x11 x13).bind fun x14 =>
 if (!x14) = true then (some false) else
 (p_law_right_HIIOIBEII x1 x4 x7).bind fun x12 =>
 some x12) else
 (p_law_right_HIIOIBEII x1 x4 x7).bind fun x16 =>
 some x16
end Lw
namespace Lw
open PySem PySem.Spec PyProof.Rows L2 Fw
def bn : Nat → Nat → Nat
  | _, 0 => 1
  | a, b + 1 => bn a b * (a - b) / (b + 1)
def tC (h k e : Nat) : Nat := if h = 0 then 1 else if k = 0 ∨ h < k ∨ e + 1 ≤ k then bn (e + h - 1) (h - 1) else 2 ^ (k - 1) * bn h (k - 1) * bn (e + k - 1) (k - 1)
def rC (h k : Nat) : Nat → Nat
  | 0 => if h = 0 then 1 else tC h k 0
  | e + 1 => if h = 0 then 1 else rC h k e + tC h k (e + 1)
theorem chk_step : ∀ h, h < 12 → ∀ k, k < 13 → ∀ e, e < 20 → (if k = 0 ∨ h + 1 < k ∨ e + 1 ≤ k then rC h 0 e else tC h k e + (if 1 < k then 2 * rC h (k - 1) e else 0)) ≤ tC (h + 1) k e := by decide +kernel
theorem chk_cb : ∀ a, a < 32 → ∀ b, b < 13 → b ≤ a → ((bn a b : Nat) : Int) = PySem.W.mcComb a b := by decide +kernel
theorem chk_end : ∀ h, h < 13 → ∀ k, k < 13 → ∀ e, e < 20 → 0 < h → 0 < k → tC h k e ≤ 2 ^ (min (min k (h + 1)) (e + 1) - 1) * bn h (min (min k (h + 1)) (e + 1) - 1) * bn (e + (min (min k (h + 1)) (e + 1) - 1)) (min (min k (h + 1)) (e + 1) - 1) := by decide +kernel
theorem chk_cap : ∀ h, h < 13 → ∀ m, m < 13 → bn h m ≤ 1000 := by decide +kernel
def lg (n : Nat) : Nat := n.log2
theorem lg_lt {n k : Nat} (h : 0 < n) (hn : n < 2 ^ k) : lg n < k := (Nat.log2_lt (by omega)).mpr hn
theorem lg_top (n : Nat) : n < 2 ^ (lg n + 1) := Nat.lt_log2_self
theorem lg_low {n : Nat} (h : 0 < n) : 2 ^ lg n ≤ n := Nat.log2_self_le (by omega)
theorem lg_eq {n k : Nat} (h1 : 2 ^ k ≤ n) (h2 : n < 2 ^ (k + 1)) : lg n = k := by
  have h0 : 0 < n := Nat.lt_of_lt_of_le (Nat.pow_pos (by decide)) h1
  have a := lg_lt h0 h2
  have b : k ≤ lg n := by
    apply Classical.byContradiction
    intro z
    have e0 : lg n = n.log2 := rfl
    have : n < 2 ^ k := (Nat.log2_lt (by omega)).mp (by omega : n.log2 < k)
    omega
  omega
theorem bits_lg {n : Nat} (h : 0 < n) : bitsI (n : Int) = (lg n : Int) + 1 := by
  unfold bitsI Builtin.Int.intBits lg
  rw [if_neg (by simp; omega)]
  have e : ((n : Int)).natAbs = n := by omega
  rw [e]
  omega
def ix : Option Nat → Nat
  | none => 0
  | some k => k
def bOk (b : Option Nat) : Prop := ∀ k, b = some k → 1 ≤ k ∧ k ≤ 12
theorem free_ix {n h : Nat} {b : Option Nat} (hn : 0 < n) : freeZ n h b = true → ix b = 0 ∨ h < ix b ∨ lg n + 1 ≤ ix b := fun e => by
  cases b with
  | none => exact .inl rfl
  | some k =>
    right
    have hz : freeZ n h (some k) = (decide (bitsI (n : Int) ≤ (k : Int)) || decide ((h : Int) < (k : Int))) := rfl
    rw [hz, Bool.or_eq_true, decide_eq_true_eq, decide_eq_true_eq, bits_lg hn] at e
    show h < k ∨ lg n + 1 ≤ k
    omega
theorem nofree_ix {n h k : Nat} (hn : 0 < n) : freeZ n h (some k) = false → ¬(h < k ∨ lg n + 1 ≤ k) := fun e => by
  have hz : freeZ n h (some k) = (decide (bitsI (n : Int) ≤ (k : Int)) || decide ((h : Int) < (k : Int))) := rfl
  rw [hz, Bool.or_eq_false_iff, decide_eq_false_iff_not, decide_eq_false_iff_not, bits_lg hn] at e
  omega
theorem rC0 (k : Nat) : ∀ e, rC 0 k e = 1
  | 0 => rfl
  | _ + 1 => rfl
theorem rC_z {h : Nat} (k : Nat) (hh : h ≠ 0) : rC h k 0 = tC h k 0 := if_neg hh
theorem rC_s {h : Nat} (k e : Nat) (hh : h ≠ 0) : rC h k (e + 1) = rC h k e + tC h k (e + 1) := if_neg hh
theorem rC_le (h k e : Nat) : rC h k e ≤ rC h k (e + 1) := by
  by_cases hh : h = 0
  · subst hh
    rw [rC0, rC0]
    exact Nat.le_refl _
  · rw [rC_s k e hh]
    exact Nat.le_add_right ..
theorem rowZ_one : ∀ m, rowZ (fun _ => 1) m = m := by
  intro m
  induction m using Nat.strongRecOn with
  | _ m ih =>
    by_cases h : m = 0
    · subst h
      exact rowZ_zero _
    · rw [rowZ_pos _ (by omega), ih _ (by omega), ih _ (by omega)]
      omega
def TB (h : Nat) : Prop := ∀ (n : Nat) (b : Option Nat), 0 < n → n < 2 ^ 20 → bOk b → treeZ h n b ≤ n * tC h (ix b) (lg n)
def RB (h : Nat) : Prop := ∀ (b : Option Nat), bOk b → ∀ (e m : Nat), e < 20 → m < 2 ^ (e + 1) → rowZ (fun m => treeZ h m b) m ≤ m * rC h (ix b) e
theorem row_bound {h : Nat} (T : TB h) : RB h := by
  intro b hb e
  by_cases hh : h = 0
  · subst hh
    intro m he hm
    rw [rC0, Nat.mul_one]
    exact Nat.le_of_eq (rowZ_one m)
  · induction e with
    | zero =>
      intro m he hm
      by_cases h0 : m = 0
      · subst h0
        rw [rowZ_zero]
        exact Nat.zero_le _
      · have h1 : m = 1 := by omega
        subst h1
        rw [rowZ_pos _ (by omega)]
        show rowZ _ 0 + treeZ h 1 b + rowZ _ 0 ≤ _
        rw [rowZ_zero, Nat.zero_add, Nat.add_zero, rC_z _ hh]
        exact T 1 b (by omega) (by decide) hb
    | succ e ih =>
      intro m he hm
      by_cases hs : m < 2 ^ (e + 1)
      · exact Nat.le_trans (ih m (by omega) hs) (Nat.mul_le_mul_left m (rC_le h (ix b) e))
      · have hm0 : 0 < m := Nat.lt_of_lt_of_le (Nat.pow_pos (by decide)) (Nat.le_of_not_lt hs)
        have hl : lg m = e + 1 := lg_eq (Nat.le_of_not_lt hs) hm
        have hp : 2 ^ (e + 1 + 1) = 2 ^ (e + 1) * 2 := Nat.pow_succ ..
        have t := T m b hm0 (Nat.lt_of_lt_of_le hm (Nat.pow_le_pow_right (by decide) (by omega))) hb
        have r1 := ih (m / 2) (by omega) (by omega)
        have r2 := ih ((m + 1) / 2 - 1) (by omega) (by omega)
        rw [hl] at t
        rw [rowZ_pos _ hm0, rC_s _ _ hh, Nat.mul_add]
        have r3 : m / 2 * rC h (ix b) e + ((m + 1) / 2 - 1) * rC h (ix b) e ≤ m * rC h (ix b) e := by
          rw [← Nat.add_mul]
          exact Nat.mul_le_mul_right _ (by omega)
        omega
theorem tree_bound : ∀ h, h ≤ 12 → TB h
  | 0, _ => fun n b hn _ _ => by
    show 1 ≤ n * 1
    omega
  | h + 1, hh => fun n b hn hn2 hb => by
    have T := tree_bound h (by omega)
    have R := row_bound T
    have he : lg n < 20 := lg_lt hn hn2
    have hk : ix b < 13 := by
      cases b with
      | none => decide
      | some k =>
        have := hb k rfl
        show k < 13
        omega
    have c := chk_step h (by omega) (ix b) hk (lg n) he
    cases hf : freeZ n (h + 1) b with
    | true =>
      rw [if_pos (free_ix hn hf)] at c
      rw [treeZ_free hf]
      exact Nat.le_trans (R none (fun k e => nomatch e) (lg n) n he (lg_top n)) (Nat.mul_le_mul_left n c)
    | false =>
      cases b with
      | none => cases hf
      | some k =>
        have hk1 := hb k rfl
        have nf := nofree_ix hn hf
        rw [if_neg (by show ¬(k = 0 ∨ h + 1 < k ∨ lg n + 1 ≤ k); omega)] at c
        rw [treeZ_some hf]
        refine Nat.le_trans ?_ (Nat.mul_le_mul_left n c)
        have t := T n (some k) hn hn2 hb
        rw [Nat.mul_add]
        refine Nat.add_le_add t ?_
        by_cases h1 : 1 < k
        · rw [if_pos h1, if_pos (by exact h1)]
          have r := R (some (k - 1)) (fun x e => by cases e; omega) (lg n) (n - 1) he (Nat.lt_of_le_of_lt (Nat.sub_le ..) (lg_top n))
          have r2 : (n - 1) * rC h (k - 1) (lg n) ≤ n * rC h (k - 1) (lg n) := Nat.mul_le_mul_right _ (Nat.sub_le ..)
          have e1 : n * (2 * rC h (k - 1) (lg n)) = 2 * (n * rC h (k - 1) (lg n)) := by rw [← Nat.mul_assoc, Nat.mul_comm n 2, Nat.mul_assoc]
          show 2 * rowZ (fun m => treeZ h m (some (k - 1))) (n - 1) ≤ n * (2 * rC h (k - 1) (lg n))
          rw [e1]
          exact Nat.mul_le_mul_left 2 (Nat.le_trans r r2)
        · rw [if_neg h1]
          exact Nat.zero_le _
def mB (n h k : Nat) : Nat := min (min k (h + 1)) (lg n + 1) - 1
def bnd (n h : Nat) (b : Option Nat) : Nat := if h = 0 then 1 else match b with
  | none => n * bn (lg n + h - 1) (h - 1)
  | some k => n * 2 ^ mB n h k * bn h (mB n h k) * bn (lg n + mB n h k) (mB n h k)
theorem size_le {n h : Nat} {b : Option Nat} (hn : 0 < n) (hn2 : n < 2 ^ 20) (hh : h ≤ 12) (hb : bOk b) : treeZ h n b ≤ bnd n h b := by
  have t := tree_bound h hh n b hn hn2 hb
  have he : lg n < 20 := lg_lt hn hn2
  unfold bnd
  by_cases h0 : h = 0
  · subst h0
    rw [if_pos rfl]
    exact Nat.le_refl 1
  · rw [if_neg h0]
    cases b with
    | none =>
      refine Nat.le_trans t (Nat.le_of_eq ?_)
      show n * (if h = 0 then 1 else if (0 : Nat) = 0 ∨ h < 0 ∨ lg n + 1 ≤ 0 then bn (lg n + h - 1) (h - 1) else _) = _
      rw [if_neg h0, if_pos (.inl rfl)]
    | some k =>
      have hk := hb k rfl
      have c := chk_end h (by omega) k (by omega) (lg n) he (by omega) (by omega)
      refine Nat.le_trans t (Nat.le_trans (Nat.mul_le_mul_left n c) (Nat.le_of_eq ?_))
      show n * (2 ^ mB n h k * bn h (mB n h k) * bn (lg n + mB n h k) (mB n h k)) = n * 2 ^ mB n h k * bn h (mB n h k) * bn (lg n + mB n h k) (mB n h k)
      simp only [Nat.mul_assoc]
theorem comb_ok {a b : Nat} (ha : a < 32) (hb : b < 13) (h : b ≤ a) : combT (a : Int) (b : Int) = some ((bn a b : Nat) : Int) := by
  unfold combT
  rw [if_pos (by omega), chk_cb a ha b hb h]
theorem binom_ok : ∀ a : Nat, a < 32 → ∀ b : Nat, b < 13 → b ≤ a → p_law_binomial_II (a : Int) (b : Int) = some ((bn a b : Nat) : Int) := by decide +kernel
def cI (b : Option Nat) : Option Int := b.map fun k => (k : Int)
theorem cI_none : cI none = none := rfl
theorem cI_some (k : Nat) : cI (some k) = some (k : Int) := rfl
theorem mB_le {n h k : Nat} : mB n h k ≤ h ∧ mB n h k ≤ lg n ∧ mB n h k ≤ k - 1 := by
  unfold mB
  omega
theorem small_prod {n h m : Nat} (hn : n < 2 ^ 20) (hh : h ≤ 12) (hm : m ≤ 12) : n * 2 ^ m < 18446744073709551616 ∧ n * 2 ^ m * bn h m < 18446744073709551616 := by
  have h1 : 2 ^ m ≤ 2 ^ 12 := Nat.pow_le_pow_right (by decide) hm
  have h2 := chk_cap h (by omega) m (by omega)
  have h3 : n * 2 ^ m ≤ 2 ^ 20 * 2 ^ 12 := Nat.mul_le_mul (Nat.le_of_lt hn) h1
  have h4 : n * 2 ^ m * bn h m ≤ 2 ^ 20 * 2 ^ 12 * 1000 := Nat.mul_le_mul h3 h2
  omega
theorem size_bound_ok {n h : Nat} {b : Option Nat} (hn : 0 < n) (hn2 : n < 2 ^ 20) (hh : h ≤ 12) (hb : bOk b) : p_size_bound_IIOI n h (cI b) = some ((bnd n h b : Nat) : Int) := by
  have he : lg n < 20 := lg_lt hn hn2
  unfold p_size_bound_IIOI bnd
  by_cases h0 : h = 0
  · subst h0
    rfl
  · rw [if_neg (by simp only [decide_eq_true_eq]; omega), if_neg h0]
    dsimp only [letO]
    rw [bits_lg hn]
    have e0 : (lg n : Int) + 1 - 1 = ((lg n : Nat) : Int) := by omega
    rw [e0]
    cases b with
    | none =>
      rw [cI_none]
      have e1 : ((lg n : Nat) : Int) + (h : Int) - 1 = ((lg n + h - 1 : Nat) : Int) := by omega
      have e2 : (h : Int) - 1 = ((h - 1 : Nat) : Int) := by omega
      show ((combT _ _).bind fun x2 => (mulO (n : Int) x2).bind fun x3 => some x3) = _
      rw [e1, e2, comb_ok (by omega) (by omega) (by omega), Option.bind_some, mulO_l (by omega), Option.bind_some]
      rfl
    | some k =>
      have hk := hb k rfl
      obtain ⟨q1, q2, q3⟩ := mB_le (n := n) (h := h) (k := k)
      obtain ⟨s1, s2⟩ := small_prod (m := mB n h k) hn2 hh (by omega)
      have e1 : minI [((k : Nat) : Int), (h : Int) + 1, ((lg n : Nat) : Int) + 1] = some (min (min (k : Int) ((h : Int) + 1)) ((lg n : Nat) + 1)) := rfl
      have e2 : min (min (k : Int) ((h : Int) + 1)) (((lg n : Nat) : Int) + 1) - 1 = ((mB n h k : Nat) : Int) := by
        unfold mB
        omega
      have e3 : shlO (n : Int) ((mB n h k : Nat) : Int) = some (((n * 2 ^ mB n h k : Nat)) : Int) := by
        unfold shlO
        rw [if_pos (by omega), Int.toNat_natCast, Int.natCast_mul, Int.natCast_pow]
        rfl
      have e4 : ((lg n : Nat) : Int) + ((mB n h k : Nat) : Int) = ((lg n + mB n h k : Nat) : Int) := by omega
      have em : mapO (fun z => z) [some ((k : Nat) : Int), some ((h : Int) + 1), some (((lg n : Nat) : Int) + 1)] = some [((k : Nat) : Int), (h : Int) + 1, ((lg n : Nat) : Int) + 1] := rfl
      rw [cI_some, if_neg (by simp), em, Option.bind_some, e1, Option.bind_some]
      rw [e2, e3, Option.bind_some, comb_ok (by omega) (by omega) q1, Option.bind_some, mulO_l (by omega), Option.bind_some, e4, comb_ok (by omega) (by omega) (by omega), Option.bind_some, mulO_l (by rw [← Int.natCast_mul]; omega), Option.bind_some,
        ← Int.natCast_mul, ← Int.natCast_mul]
theorem pow_loop {n : Nat} (hn : 0 < n) {f : Int × Int → Int → Option (Brk (Int × Int))} (hf : ∀ s x, f s x = if (n : Int) < 2 * s.1 then some (.stop (s.1, s.2)) else some (.go (2 * s.1, s.2 + 1))) :
    ∀ (xs : List Int) (j : Nat), j ≤ lg n → lg n ≤ j + xs.length → forB f xs (((2 ^ j : Nat) : Int), (j : Int)) = some (((2 ^ lg n : Nat) : Int), ((lg n : Nat) : Int))
  | [], j, h1, h2 => by
    have : j = lg n := by
      simp only [List.length_nil] at h2
      omega
    rw [this]
    rfl
  | x :: xs, j, h1, h2 => by
    unfold forB
    rw [hf]
    by_cases hj : j = lg n
    · have hlt : (n : Int) < 2 * ((2 ^ j : Nat) : Int) := by
        have := lg_top n
        rw [Nat.pow_succ] at this
        rw [hj]
        omega
      rw [if_pos hlt, hj]
      rfl
    · have hge : ¬(n : Int) < 2 * ((2 ^ j : Nat) : Int) := by
        have h3 : 2 ^ (j + 1) ≤ n := Nat.le_trans (Nat.pow_le_pow_right (by decide) (by omega : j + 1 ≤ lg n)) (lg_low hn)
        rw [Nat.pow_succ] at h3
        omega
      have e1 : 2 * ((2 ^ j : Nat) : Int) = ((2 ^ (j + 1) : Nat) : Int) := by
        rw [Nat.pow_succ]
        omega
      rw [if_neg hge, Option.bind_some]
      dsimp only
      rw [e1]
      have := pow_loop hn hf xs (j + 1) (by omega) (by simp only [List.length_cons] at h2; omega)
      exact this
theorem fold_two : ∀ (xs : List Int) (s : Int), xs.foldl (fun s _ => 2 * s) s = 2 ^ xs.length * s := by
  intro xs
  induction xs with
  | nil =>
    intro s
    simp
  | cons x xs ih =>
    intro s
    rw [List.foldl_cons, ih, List.length_cons, Int.pow_succ, Int.mul_assoc]
theorem law_bound_ok {n h : Nat} {b : Option Nat} (hn : 0 < n) (hn2 : n < 2 ^ 20) (hh : h ≤ 12) (hb : bOk b) : p_law_bound_IIOI n h (cI b) = some ((bnd n h b : Nat) : Int) := by
  have he : lg n < 20 := lg_lt hn hn2
  unfold p_law_bound_IIOI bnd
  by_cases h0 : h = 0
  · subst h0
    rfl
  · rw [if_neg (by simp only [decide_eq_true_eq]; omega), if_neg h0]
    rw [letO_x, letO_x, show rng1O 64 = some (rg 64) from rng1O_n (n := 64) (by omega), Option.bind_some]
    have lp := pow_loop hn (f := fun (s6 : Int × Int) (x3 : Int) => if (decide ((n : Int) < (2 * s6.1))) = true then (some (.stop (s6.1, s6.2))) else letO (2 * s6.1) fun (x8 : Int) => letO (s6.2 + 1) fun (x9 : Int) => some (.go (x8, x9)))
      (fun s x => by
        by_cases hc : (n : Int) < 2 * s.1
        · rw [if_pos (decide_eq_true hc), if_pos hc]
        · rw [if_neg (by simp only [decide_eq_true_eq]; exact hc), if_neg hc]
          rfl) (rg 64) 0 (Nat.zero_le _) (by rw [show (rg 64).length = 64 from by rw [← rgI_rg, rgI_len]]; omega)
    have lp' := lp
    rw [show ((2 ^ 0 : Nat) : Int) = 1 from rfl, show ((0 : Nat) : Int) = 0 from rfl] at lp'
    rw [lp', Option.bind_some]
    dsimp only
    cases b with
    | none =>
      rw [cI_none]
      have e1 : ((lg n : Nat) : Int) + (h : Int) - 1 = ((lg n + h - 1 : Nat) : Int) := by omega
      have e2 : (h : Int) - 1 = ((h - 1 : Nat) : Int) := by omega
      show ((p_law_binomial_II _ _).bind fun x2 => (mulO (n : Int) x2).bind fun x3 => some x3) = _
      rw [e1, e2, binom_ok _ (by omega) _ (by omega) (by omega), Option.bind_some, mulO_l (by omega), Option.bind_some]
      rfl
    | some k =>
      have hk := hb k rfl
      obtain ⟨q1, q2, q3⟩ := mB_le (n := n) (h := h) (k := k)
      obtain ⟨s1, s2⟩ := small_prod (m := mB n h k) hn2 hh (by omega)
      have e2 : min (min (k : Int) ((h : Int) + 1)) (((lg n : Nat) : Int) + 1) - 1 = ((mB n h k : Nat) : Int) := by
        unfold mB
        omega
      have e4 : ((lg n : Nat) : Int) + min (min (k : Int) ((h : Int) + 1)) (((lg n : Nat) : Int) + 1) - 1 = ((lg n + mB n h k : Nat) : Int) := by
        unfold mB
        omega
      rw [cI_some, if_neg (by simp), Option.bind_some, letO_x, letO_x, e2, e4, rng1O_n (by omega), Option.bind_some, for_eq (f := fun (s18 : Int) (x16 : Int) => letO (2 * s18) fun (x20 : Int) => some x20) (g := fun s _ => 2 * s) (fun x hx s => rfl), Option.bind_some, fold_two, show (rg (mB n h k)).length = mB n h k from by rw [← rgI_rg, rgI_len]]
      have e5 : (2 : Int) ^ mB n h k * (n : Int) = ((n * 2 ^ mB n h k : Nat) : Int) := by
        rw [Int.natCast_mul, Int.natCast_pow, Int.mul_comm]
        rfl
      rw [e5, binom_ok _ (by omega) _ (by omega) q1, Option.bind_some, mulO_l (by omega), Option.bind_some, binom_ok _ (by omega) _ (by omega) (by omega), Option.bind_some, mulO_l (by rw [← Int.natCast_mul]; omega), Option.bind_some,
        ← Int.natCast_mul, ← Int.natCast_mul]
abbrev E4 := Int × Int × Option Int × Bool
structure Par (E : E4) : Prop where
  pos : 0 < E.1
  le : E.1 ≤ 1000000
  h0 : 0 ≤ E.2.1
  h12 : E.2.1 ≤ 12
  k : ∀ k, E.2.2.1 = some k → 1 ≤ k ∧ k ≤ 12
def zE (E : E4) : Nat := treeZ E.2.1.toNat E.1.toNat (E.2.2.1.map Int.toNat)
def bE (E : E4) : Nat := bnd E.1.toNat E.2.1.toNat (E.2.2.1.map Int.toNat)
theorem usz_ok {E : E4} (P : Par E) : uszT E.1 E.2.1 E.2.2.1 = some ((zE E : Nat) : Int) := by
  obtain ⟨n, h, b, g⟩ := E
  have h1 : 0 < n := P.pos
  have h2 : n ≤ 1000000 := P.le
  have h3 : 0 ≤ h := P.h0
  have h4 : h ≤ 12 := P.h12
  have h5 := P.k
  show uszT n h b = _
  unfold uszT
  rw [if_pos ⟨h1, by omega, h3, h4⟩]
  cases b with
  | none => rfl
  | some k =>
    have := h5 k rfl
    dsimp only
    rw [if_pos ⟨by omega, this.2⟩]
    rfl
theorem lsz_ok {E : E4} (P : Par E) : lszT E.1 E.2.1 E.2.2.1 = some ((zE E : Nat) : Int) := by
  unfold lszT
  have hk := P.k
  rw [if_pos ?_, usz_ok P]
  cases hb : E.2.2.1 with
  | none => rfl
  | some k => exact decide_eq_true (hk k hb).1
theorem nat_h {E : E4} (P : Par E) : ((E.2.1.toNat : Nat) : Int) = E.2.1 := Int.toNat_of_nonneg P.h0
theorem nat_n {E : E4} (P : Par E) : ((E.1.toNat : Nat) : Int) = E.1 := Int.toNat_of_nonneg (by have := P.pos; omega)
theorem nat_k {E : E4} (P : Par E) : cI (E.2.2.1.map Int.toNat) = E.2.2.1 := by
  cases hb : E.2.2.1 with
  | none => rfl
  | some k =>
    show some (((k.toNat : Nat)) : Int) = some k
    rw [Int.toNat_of_nonneg (by have := P.k k hb; omega)]
theorem bok {E : E4} (P : Par E) : bOk (E.2.2.1.map Int.toNat) := fun k e => by
  cases hb : E.2.2.1 with
  | none =>
    rw [hb] at e
    cases e
  | some x =>
    rw [hb] at e
    cases e
    have := P.k x hb
    omega
theorem size_bound_E {E : E4} (P : Par E) : p_size_bound_IIOI E.1 E.2.1 E.2.2.1 = some ((bE E : Nat) : Int) := by
  have hp := P.pos
  have hl := P.le
  have hh := P.h12
  have := size_bound_ok (n := E.1.toNat) (h := E.2.1.toNat) (b := E.2.2.1.map Int.toNat) (by omega) (by omega) (by omega) (bok P)
  rw [nat_h P, nat_n P, nat_k P] at this
  exact this
theorem law_bound_E {E : E4} (P : Par E) : p_law_bound_IIOI E.1 E.2.1 E.2.2.1 = some ((bE E : Nat) : Int) := by
  have hp := P.pos
  have hl := P.le
  have hh := P.h12
  have := law_bound_ok (n := E.1.toNat) (h := E.2.1.toNat) (b := E.2.2.1.map Int.toNat) (by omega) (by omega) (by omega) (bok P)
  rw [nat_h P, nat_n P, nat_k P] at this
  exact this
theorem size_le_E {E : E4} (P : Par E) : zE E ≤ bE E := by
  have hp := P.pos
  have hl := P.le
  have hh := P.h12
  exact size_le (by omega) (by omega) (by omega) (bok P)
theorem right_ok {E : E4} (P : Par E) : p_law_right_HIIOIBEII E ((zE E : Nat) : Int) ((bE E : Nat) : Int) = some true := by
  unfold p_law_right_HIIOIBEII p_universal_size_IIOI p_law_whole_I
  have u := usz_ok P
  have sb := size_bound_E P
  have le := size_le_E P
  dsimp only [letO]
  have hc : (if (E.2.2.1.isNone && E.2.2.2) = true then (uszT E.1 E.2.1 none).bind fun x22 => (p_size_bound_IIOI E.1 E.2.1 none).bind fun x21 => some (x22, x21) else (uszT E.1 E.2.1 E.2.2.1).bind fun x26 => (p_size_bound_IIOI E.1 E.2.1 E.2.2.1).bind fun x25 => some (x26, x25)) = some (((zE E : Nat) : Int), ((bE E : Nat) : Int)) := by
    split
    · rename_i h
      rw [Bool.and_eq_true] at h
      have hn : E.2.2.1 = none := by
        cases hk : E.2.2.1 with
        | none => rfl
        | some k => rw [hk] at h; cases h.1
      rw [hn] at u sb
      rw [u, Option.bind_some, sb, Option.bind_some]
    · rw [u, Option.bind_some, sb, Option.bind_some]
  rw [hc]
  simp [le]
theorem okDigs {β : Type} {ns : List Int} {k : Int} {sizes : List Int} {K : List Int → Option β} {Q : β → Prop} (hk : 0 ≤ k ∧ k ≤ 100000) (h : ∀ s ∈ sizes, 0 < s ∧ s < 1073741824) (hl : sizes.length ≤ 100000)
    (hK : ∀ ds : List Int, Dig sizes ds → Ok (K ds) Q) : Ok ((p_law_cell_FI ns k).bind fun x => (p_law_digits_ILI x sizes).bind fun w => K w) Q := by
  obtain ⟨c, ds, e1, e2, h3⟩ := drawn ns k hk sizes h hl
  exact Ok.bindE e1 (Ok.bindE e2 (hK ds h3))
theorem Dig.inv {s : Int} {ss ds : List Int} (h : Dig (s :: ss) ds) : ∃ d ds', ds = d :: ds' ∧ (0 ≤ d ∧ d < s) ∧ Dig ss ds' := by
  cases h with
  | cons h t => exact ⟨_, _, rfl, h, t⟩
theorem Dig.inv0 {ds : List Int} (h : Dig [] ds) : ds = [] := by
  cases h
  rfl
theorem params_ok (ns : List Int) {at_ : Int} (ha : 0 ≤ at_ ∧ at_ ≤ 1000) : Ok (p_law_parameters_FI ns at_) Par := by
  unfold p_law_parameters_FI
  refine okDigs (by omega) (by simp) (by simp) fun ds hd => ?_
  obtain ⟨d0, ds, rfl, b0, hd⟩ := hd.inv
  obtain ⟨d1, ds, rfl, b1, hd⟩ := hd.inv
  obtain ⟨d2, ds, rfl, b2, hd⟩ := hd.inv
  obtain ⟨d3, ds, rfl, b3, hd⟩ := hd.inv
  obtain ⟨d4, ds, rfl, b4, hd⟩ := hd.inv
  obtain ⟨d5, ds, rfl, b5, hd⟩ := hd.inv
  obtain ⟨d6, ds, rfl, b6, hd⟩ := hd.inv
  obtain ⟨d7, ds, rfl, b7, hd⟩ := hd.inv
  obtain ⟨d8, ds, rfl, b8, hd⟩ := hd.inv
  cases hd.inv0
  obtain ⟨m, em, hm⟩ := ok_getI (xs := [(12 : Int), 1000, 1, 1, 1000000, 1000000]) (i := d0) ⟨b0.1, by simpa using b0.2⟩
  have hm2 : 0 < m ∧ m ≤ 1000000 := by
    simp only [List.mem_cons, List.not_mem_nil, or_false] at hm
    omega
  obtain ⟨k, ek, hk⟩ := ok_getI (xs := [none, none, (some (2 + d5 : Int)), (some (2 + d5)), (some (1 + d4))]) (i := d3) ⟨b3.1, by simpa using b3.2⟩
  have hk2 : ∀ x, k = some x → 1 ≤ x ∧ x ≤ 12 := by
    simp only [List.mem_cons, List.not_mem_nil, or_false] at hk
    intro x hx
    rcases hk with rfl | rfl | rfl | rfl | rfl
    · cases hx
    · cases hx
    all_goals (cases hx; omega)
  have hmod := Int.emod_nonneg d1 (b := m) (by omega)
  have hmod2 := Int.emod_lt_of_pos d1 (b := m) (by omega)
  have e2 : modO d1 m = some (d1 % m) := modO_pos hm2.1
  refine ok_let (Ok.bindE (a := d1) rfl (Ok.bindE (a := d0) rfl (Ok.bindE em (Ok.bindE e2 (ok_let (Ok.bindE (a := d0) rfl ?_))))))
  refine Ok.bind (P := fun _ => True) (ok_ite (fun _ => Ok.mk trivial) fun _ => Ok.bindE (a := d0) rfl (Ok.mk trivial)) fun c _ => ?_
  have I : ∀ {o : Option Int} {K : Int → Option E4}, Ok o (fun s => 0 < s ∧ s ≤ 1000000) → (∀ s : Int, 0 < s ∧ s ≤ 1000000 → Ok (K s) Par) → Ok (o.bind K) Par := fun h g => Ok.bind h g
  refine I (ok_ite (fun _ => ?_) fun _ => Ok.mk ⟨by omega, by omega⟩) fun s hs => ?_
  · refine ok_let (Ok.bindE (a := d7) rfl (Ok.bindE (rng1O_i (by omega) (by omega)) ?_))
    rw [for_eq (f := fun (s18 : Int) (x16 : Int) => letO (2 * s18) fun (x20 : Int) => some x20) (g := fun s _ => 2 * s) (fun x hx s => rfl), Option.bind_some, fold_two, Int.mul_one]
    have hl : (rg d7.toNat).length = d7.toNat := by rw [← rgI_rg, rgI_len]
    rw [hl]
    have h1 : 2 ^ d7.toNat ≤ 2 ^ 19 := Nat.pow_le_pow_right (by decide) (by omega)
    have h2 : 0 < 2 ^ d7.toNat := Nat.pow_pos (by decide)
    have h3 : (2 : Int) ^ d7.toNat = ((2 ^ d7.toNat : Nat) : Int) := by rw [Int.natCast_pow]; rfl
    refine Ok.bindE (a := d8) rfl (ok_let (Ok.mk ?_))
    rw [h3]
    show 0 < max 1 (((2 ^ d7.toNat : Nat) : Int) + d8 - 1) ∧ max 1 (((2 ^ d7.toNat : Nat) : Int) + d8 - 1) ≤ 1000000
    omega
  · refine Ok.bindE (a := d5) rfl (Ok.bindE (a := d5) rfl (Ok.bindE (a := d4) rfl (Ok.bindE (a := d3) rfl (Ok.bindE ek (ok_let (Ok.bindE (a := d2) rfl (Ok.bindE (a := d6) rfl (Ok.mk ?_))))))))
    exact ⟨hs.1, hs.2, b2.1, by show d2 ≤ 12; omega, hk2⟩
theorem utmost_ok (ns : List Int) {at_ : Int} (ha : 0 ≤ at_ ∧ at_ ≤ 1000) : Ok (p_law_utmost_FI ns at_) Par := by
  unfold p_law_utmost_FI
  refine okDigs (by omega) (by simp) (by simp) fun ds hd => ?_
  obtain ⟨d0, ds, rfl, b0, hd⟩ := hd.inv
  obtain ⟨d1, ds, rfl, b1, hd⟩ := hd.inv
  obtain ⟨d2, ds, rfl, b2, hd⟩ := hd.inv
  obtain ⟨d3, ds, rfl, b3, hd⟩ := hd.inv
  obtain ⟨d4, ds, rfl, b4, hd⟩ := hd.inv
  obtain ⟨d5, ds, rfl, b5, hd⟩ := hd.inv
  obtain ⟨d6, ds, rfl, b6, hd⟩ := hd.inv
  cases hd.inv0
  obtain ⟨m, em, hm⟩ := ok_getI (xs := [1000000, 999999, 1000000 - d1]) (i := d0) ⟨b0.1, by simpa using b0.2⟩
  have hm2 : 0 < m ∧ m ≤ 1000000 := by
    simp only [List.mem_cons, List.not_mem_nil, or_false] at hm
    omega
  obtain ⟨h, eh, hh⟩ := ok_getI (xs := [(12 : Int), 11, d3]) (i := d2) ⟨b2.1, by simpa using b2.2⟩
  have hh2 : 0 ≤ h ∧ h ≤ 12 := by
    simp only [List.mem_cons, List.not_mem_nil, or_false] at hh
    omega
  obtain ⟨k, ek, hk⟩ := ok_getI (xs := [none, (some (12 : Int)), (some 11), (some (1 + d5)), (some (1 + d5))]) (i := d4) ⟨b4.1, by simpa using b4.2⟩
  have hk2 : ∀ x, k = some x → 1 ≤ x ∧ x ≤ 12 := by
    simp only [List.mem_cons, List.not_mem_nil, or_false] at hk
    intro x hx
    rcases hk with rfl | rfl | rfl | rfl | rfl
    · cases hx
    · cases hx; omega
    · cases hx; omega
    · cases hx; omega
    · cases hx; omega
  refine ok_let (Ok.bindE (a := d5) rfl (Ok.bindE (a := d5) rfl (Ok.bindE (a := d4) rfl (Ok.bindE ek (ok_let (Ok.bindE (a := d1) rfl (Ok.bindE (a := d0) rfl (Ok.bindE em (Ok.bindE (a := d3) rfl (Ok.bindE (a := d2) rfl (Ok.bindE eh (Ok.bindE (a := d6) rfl (Ok.mk ?_)))))))))))))
  exact ⟨hm2.1, hm2.2, hh2.1, hh2.2, hk2⟩
theorem root_ok {E : E4} {Ns : List Nat} (P : Par E) (h : E.1.toNat ∈ Ns) : lszN Ns E.1 E.2.1 E.2.2.1 = some ((zE E : Nat) : Int) := by
  unfold lszN
  rw [if_pos h, lsz_ok P]
theorem law_typed (ns : List Int) : p_law ns = some true := by
  suffices h : Ok (p_law ns) fun z => z = true by
    obtain ⟨z, e, rfl⟩ := h
    exact e
  unfold p_law
  refine Ok.bind (params_ok ns (by omega)) fun A PA => ok_let (Ok.bind (params_ok ns (by omega)) fun B PB => ok_let ?_)
  obtain ⟨U, eU, PU⟩ := utmost_ok ns (at_ := 3) (by omega)
  refine Ok.bindE eU (ok_let ?_)
  refine Ok.bindE (root_ok PA (by simp)) (ok_let (Ok.bindE (root_ok PB (by simp)) (ok_let (Ok.bindE (law_bound_E PA) (ok_let (Ok.bindE (law_bound_E PB) (ok_let ?_)))))))
  rw [right_ok PA, right_ok PB]
  refine Ok.bindE rfl (Ok.bindE (a := false) rfl ?_)
  rw [if_neg (by decide)]
  obtain ⟨c2, e2⟩ := cell_ty ns 2 (by omega)
  refine Ok.bindE e2 (ok_ite (fun _ => ?_) fun _ => Ok.mk rfl)
  refine Ok.bindE eU (ok_let (Ok.bindE (root_ok PU (by simp)) (ok_let (Ok.bindE (law_bound_E PU) (Ok.bindE (right_ok PU) ?_)))))
  rw [if_neg (by decide)]
  exact Ok.mk rfl
end Lw
namespace Lw
open PySem PySem.Spec PyProof.Rows L2 Fw
noncomputable section
def top (i : Nat) : Stmt := PySem.Challenge.pw_holdsalltrees_k11_sizes_and_bounds.main.body.getD i (.Pass ⟨0, 0, 0, 0⟩)
structure Ks (K : PySem.W.Frag) (mg : Str → Option Value) (cl : Nat → ClsT) : Prop where
  g_comb : mg "comb" = some (.builtin "math.comb")
abbrev s_first_half : Stmt := top 2
abbrev N_first_half : List Str := ["number"]
theorem sc_first_half : FnScope N_first_half ["number"] (defScope s_first_half) := ⟨rfl, rfl, rfl, by decide +kernel, rfl, by decide +kernel, by decide +kernel⟩
def m_first_half : Sf :=
    (sRet (eBin oFdiv (eVar 0) (eC (.int 2))))
def F_first_half : List D → Ret := runF 1 m_first_half
theorem b_first_half {P : Program} {wd : World} {K : PySem.W.Frag} {mg : Str → Option Value} {base : Heap} {cl : Nat → ClsT} {k : Nat} (B : Bt mg) (kk : Ks K mg cl)
    {f : Addr} {cdv : Value} {A : Around} {outer : List PySem.Env} {s : Shared} {H : Hp} {E : XK} {G0 H0 : Hp} {sf : Nat → Addr} (hr : Fw.Room k (A.deeper (envOfC "first_half" (defScope s_first_half) s.heap.objs.size f cdv))) :
    VSs ⟨cl, G0, H0, sf, wNone, 0⟩ (XX P wd K mg base N_first_half "first_half" (defScope s_first_half) f cdv A outer s H E) (defBody s_first_half) (m_first_half) := by
  have hr0 := hr
  have hgd : (XX P wd K mg base N_first_half "first_half" (defScope s_first_half) f cdv A outer s H E).A.guards = some [] := hr.gd
  have hu : (XX P wd K mg base N_first_half "first_half" (defScope s_first_half) f cdv A outer s H E).A.units + 64 < cLine := hr.units
  have nd : (XX P wd K mg base N_first_half "first_half" (defScope s_first_half) f cdv A outer s H E).N.Nodup := sc_first_half.nd
  have v0 : ∀ pos, PE (XX P wd K mg base N_first_half "first_half" (defScope s_first_half) f cdv A outer s H E) (.Name "number" pos) (tVar 0) := fun _ => pv 0
  exact (vss_one (vs_ret (ve_bin op_fdiv r_fdiv (toO (ve_var (v0 _))) (toO ve_int))))
theorem d_first_half {P : Program} {wd : World} {K : PySem.W.Frag} {mg : Str → Option Value} {base : Heap} {cl : Nat → ClsT} (B : Bt mg) (kk : Ks K mg cl) (a_first_half : At K mg "first_half" s_first_half) : Def P wd K mg base cl 1 "first_half" 1 F_first_half :=
  def_of a_first_half sc_first_half (fun _ _ F => F.binds (ps := ["number"]) fun _ _ _ _ _ _ us hl => match us, hl with | [_], _ => rfl) fun f cdv A outer s H E G0 H0 sf hr => b_first_half (k := 0) B kk hr
abbrev s_last_half : Stmt := top 3
abbrev N_last_half : List Str := ["number"]
theorem sc_last_half : FnScope N_last_half ["number"] (defScope s_last_half) := ⟨rfl, rfl, rfl, by decide +kernel, rfl, by decide +kernel, by decide +kernel⟩
def m_last_half : Sf :=
    (sRet (eBin oSub (eBin oFdiv (eBin oAdd (eVar 0) (eC (.int 1))) (eC (.int 2))) (eC (.int 1))))
def F_last_half : List D → Ret := runF 1 m_last_half
theorem b_last_half {P : Program} {wd : World} {K : PySem.W.Frag} {mg : Str → Option Value} {base : Heap} {cl : Nat → ClsT} {k : Nat} (B : Bt mg) (kk : Ks K mg cl)
    {f : Addr} {cdv : Value} {A : Around} {outer : List PySem.Env} {s : Shared} {H : Hp} {E : XK} {G0 H0 : Hp} {sf : Nat → Addr} (hr : Fw.Room k (A.deeper (envOfC "last_half" (defScope s_last_half) s.heap.objs.size f cdv))) :
    VSs ⟨cl, G0, H0, sf, wNone, 0⟩ (XX P wd K mg base N_last_half "last_half" (defScope s_last_half) f cdv A outer s H E) (defBody s_last_half) (m_last_half) := by
  have hr0 := hr
  have hgd : (XX P wd K mg base N_last_half "last_half" (defScope s_last_half) f cdv A outer s H E).A.guards = some [] := hr.gd
  have hu : (XX P wd K mg base N_last_half "last_half" (defScope s_last_half) f cdv A outer s H E).A.units + 64 < cLine := hr.units
  have nd : (XX P wd K mg base N_last_half "last_half" (defScope s_last_half) f cdv A outer s H E).N.Nodup := sc_last_half.nd
  have v0 : ∀ pos, PE (XX P wd K mg base N_last_half "last_half" (defScope s_last_half) f cdv A outer s H E) (.Name "number" pos) (tVar 0) := fun _ => pv 0
  exact (vss_one (vs_ret (ve_bin op_sub r_sub (toO (ve_bin op_fdiv r_fdiv (toO (ve_bin op_addD r_add (toO (ve_var (v0 _))) (toO ve_int))) (toO ve_int))) (toO ve_int))))
theorem d_last_half {P : Program} {wd : World} {K : PySem.W.Frag} {mg : Str → Option Value} {base : Heap} {cl : Nat → ClsT} (B : Bt mg) (kk : Ks K mg cl) (a_last_half : At K mg "last_half" s_last_half) : Def P wd K mg base cl 1 "last_half" 1 F_last_half :=
  def_of a_last_half sc_last_half (fun _ _ F => F.binds (ps := ["number"]) fun _ _ _ _ _ _ us hl => match us, hl with | [_], _ => rfl) fun f cdv A outer s H E G0 H0 sf hr => b_last_half (k := 0) B kk hr
abbrev s_is_free : Stmt := top 5
abbrev N_is_free : List Str := ["leaves", "height", "branching"]
theorem sc_is_free : FnScope N_is_free ["leaves", "height", "branching"] (defScope s_is_free) := ⟨rfl, rfl, rfl, by decide +kernel, rfl, by decide +kernel, by decide +kernel⟩
def m_is_free : Sf :=
    (sRet (eOr (eBin oIsN (eVar 2) (eC .non)) (eOr (eBin oLe (e1o oBits (eVar 0)) (eVar 2)) (eBin oLt (eVar 1) (eVar 2)))))
def F_is_free : List D → Ret := runF 3 m_is_free
theorem b_is_free {P : Program} {wd : World} {K : PySem.W.Frag} {mg : Str → Option Value} {base : Heap} {cl : Nat → ClsT} {k : Nat} (B : Bt mg) (kk : Ks K mg cl)
    {f : Addr} {cdv : Value} {A : Around} {outer : List PySem.Env} {s : Shared} {H : Hp} {E : XK} {G0 H0 : Hp} {sf : Nat → Addr} (hr : Fw.Room k (A.deeper (envOfC "is_free" (defScope s_is_free) s.heap.objs.size f cdv))) :
    VSs ⟨cl, G0, H0, sf, wNone, 0⟩ (XX P wd K mg base N_is_free "is_free" (defScope s_is_free) f cdv A outer s H E) (defBody s_is_free) (m_is_free) := by
  have hr0 := hr
  have hgd : (XX P wd K mg base N_is_free "is_free" (defScope s_is_free) f cdv A outer s H E).A.guards = some [] := hr.gd
  have hu : (XX P wd K mg base N_is_free "is_free" (defScope s_is_free) f cdv A outer s H E).A.units + 64 < cLine := hr.units
  have nd : (XX P wd K mg base N_is_free "is_free" (defScope s_is_free) f cdv A outer s H E).N.Nodup := sc_is_free.nd
  have v0 : ∀ pos, PE (XX P wd K mg base N_is_free "is_free" (defScope s_is_free) f cdv A outer s H E) (.Name "leaves" pos) (tVar 0) := fun _ => pv 0
  have v1 : ∀ pos, PE (XX P wd K mg base N_is_free "is_free" (defScope s_is_free) f cdv A outer s H E) (.Name "height" pos) (tVar 1) := fun _ => pv 1
  have v2 : ∀ pos, PE (XX P wd K mg base N_is_free "is_free" (defScope s_is_free) f cdv A outer s H E) (.Name "branching" pos) (tVar 2) := fun _ => pv 2
  exact (vss_one (vs_ret (ve_or (ve_cmp op_isN r_isN (toO (ve_var (v2 _))) (toO ve_non) (nomark _)) (ve_or (ve_cmp op_le r_cmp (toO (ve_bits (toO (ve_var (v0 _))))) (toO (ve_var (v2 _))) (nomark _)) (ve_one (ve_cmp op_lt r_cmp (toO (ve_var (v1 _))) (toO (ve_var (v2 _))) (nomark _)))))))
theorem d_is_free {P : Program} {wd : World} {K : PySem.W.Frag} {mg : Str → Option Value} {base : Heap} {cl : Nat → ClsT} (B : Bt mg) (kk : Ks K mg cl) (a_is_free : At K mg "is_free" s_is_free) : Def P wd K mg base cl 1 "is_free" 3 F_is_free :=
  def_of a_is_free sc_is_free (fun _ _ F => F.binds (ps := ["leaves", "height", "branching"]) fun _ _ _ _ _ _ us hl => match us, hl with | [_, _, _], _ => rfl) fun f cdv A outer s H E G0 H0 sf hr => b_is_free (k := 0) B kk hr
abbrev s_row_size : Stmt := top 6
abbrev N_row_size : List Str := ["number", "height", "branching", "known", "key", "first", "last"]
theorem sc_row_size : FnScope N_row_size ["number", "height", "branching", "known"] (defScope s_row_size) := ⟨rfl, rfl, rfl, by decide +kernel, rfl, by decide +kernel, by decide +kernel⟩
abbrev s_tree_size : Stmt := top 7
abbrev N_tree_size : List Str := ["leaves", "height", "branching", "known", "key", "size"]
theorem sc_tree_size : FnScope N_tree_size ["leaves", "height", "branching", "known"] (defScope s_tree_size) := ⟨rfl, rfl, rfl, by decide +kernel, rfl, by decide +kernel, by decide +kernel⟩
theorem b_row_size {P : Program} {wd : World} {K : PySem.W.Frag} {mg : Str → Option Value} {base : Heap} {cl : Nat → ClsT} {C : Bool → Nat → Nat → Option Nat → Prop} {k j : Nat} (B : Bt mg) (kk : Ks K mg cl) (c_first_half : Def P wd K mg base cl k "first_half" 1 F_first_half) (c_last_half : Def P wd K mg base cl k "last_half" 1 F_last_half) (c_row_size : DefS P wd K mg base k "row_size" (spZ true P wd C j)) (c_tree_size : DefS P wd K mg base k "tree_size" (spZ false P wd C j))
    {f : Addr} {cdv : Value} {A : Around} {outer : List PySem.Env} {s : Shared} {H : Hp} {E : XK} (hr : Fw.Room k (A.deeper (envOfC "row_size" (defScope s_row_size) s.heap.objs.size f cdv))) :
    PSs (XX P wd K mg base N_row_size "row_size" (defScope s_row_size) f cdv A outer s H E) (defBody s_row_size) (tRowZ P wd (spF K cl 1 F_first_half) (spF K cl 1 F_last_half) (spZ true P wd C j) (spZ false P wd C j)) := by
  have hr0 := hr
  have hu : (XX P wd K mg base N_row_size "row_size" (defScope s_row_size) f cdv A outer s H E).A.units + 64 < cLine := hr.units
  have hu1 : (XX P wd K mg base N_row_size "row_size" (defScope s_row_size) f cdv A outer s H E).A.units + 1 < cLine := by omega
  have nd : (XX P wd K mg base N_row_size "row_size" (defScope s_row_size) f cdv A outer s H E).N.Nodup := sc_row_size.nd
  have v0 : ∀ pos, PE (XX P wd K mg base N_row_size "row_size" (defScope s_row_size) f cdv A outer s H E) (.Name "number" pos) (tVar 0) := fun _ => pv 0
  have v1 : ∀ pos, PE (XX P wd K mg base N_row_size "row_size" (defScope s_row_size) f cdv A outer s H E) (.Name "height" pos) (tVar 1) := fun _ => pv 1
  have v2 : ∀ pos, PE (XX P wd K mg base N_row_size "row_size" (defScope s_row_size) f cdv A outer s H E) (.Name "branching" pos) (tVar 2) := fun _ => pv 2
  have v3 : ∀ pos, PE (XX P wd K mg base N_row_size "row_size" (defScope s_row_size) f cdv A outer s H E) (.Name "known" pos) (tVar 3) := fun _ => pv 3
  have v4 : ∀ pos, PE (XX P wd K mg base N_row_size "row_size" (defScope s_row_size) f cdv A outer s H E) (.Name "key" pos) (tVar 4) := fun _ => pv 4
  have v5 : ∀ pos, PE (XX P wd K mg base N_row_size "row_size" (defScope s_row_size) f cdv A outer s H E) (.Name "first" pos) (tVar 5) := fun _ => pv 5
  have v6 : ∀ pos, PE (XX P wd K mg base N_row_size "row_size" (defScope s_row_size) f cdv A outer s H E) (.Name "last" pos) (tVar 6) := fun _ => pv 6
  exact (pss_cons (ps_if (pt_cmp (pc_eqI (v0 _) pe_int)) (pss_one (ps_ret pe_int)) pss_nil)
    (pss_cons (ps_asg (pe_tup (pa_cons pe_str (pa_cons (v0 _) (pa_cons (v1 _) (pa_cons (v2 _) pa_nil))))) (pg_name nd rfl (.inl rfl)))
    (pss_cons (ps_if (pt_cmp (pc_mnot hu1 (v4 _) (v3 _))) (pss_cons (ps_asg (pe_callZ c_row_size hr0 (by rfl) (pa_cons (pe_callZ c_first_half.toS hr0 (by rfl) (pa_cons (v0 _) pa_nil)) (pa_cons (v1 _) (pa_cons (v2 _) (pa_cons (v3 _) pa_nil))))) (pg_name nd rfl (.inl rfl))) (pss_cons (ps_asg (pe_callZ c_row_size hr0 (by rfl) (pa_cons (pe_callZ c_last_half.toS hr0 (by rfl) (pa_cons (v0 _) pa_nil)) (pa_cons (v1 _) (pa_cons (v2 _) (pa_cons (v3 _) pa_nil))))) (pg_name nd rfl (.inl rfl)))
      (pss_one (ps_mput hu1 (v3 _) (v4 _) (pe_add (pe_add (v5 _) (pe_callZ c_tree_size hr0 (by rfl) (pa_cons (v0 _) (pa_cons (v1 _) (pa_cons (v2 _) (pa_cons (v3 _) pa_nil)))))) (v6 _)) (by rfl))))) pss_nil)
    (pss_one (ps_ret (pe_mget hu1 (v3 _) (v4 _) (by intro _ _; rfl)))))))
theorem b_tree_size {P : Program} {wd : World} {K : PySem.W.Frag} {mg : Str → Option Value} {base : Heap} {cl : Nat → ClsT} {C : Bool → Nat → Nat → Option Nat → Prop} {k j : Nat} (B : Bt mg) (kk : Ks K mg cl) (c_is_free : Def P wd K mg base cl k "is_free" 3 F_is_free) (c_row_size : DefS P wd K mg base k "row_size" (spZ true P wd C j)) (c_tree_size : DefS P wd K mg base k "tree_size" (spZ false P wd C j))
    {f : Addr} {cdv : Value} {A : Around} {outer : List PySem.Env} {s : Shared} {H : Hp} {E : XK} (hr : Fw.Room k (A.deeper (envOfC "tree_size" (defScope s_tree_size) s.heap.objs.size f cdv))) :
    PSs (XX P wd K mg base N_tree_size "tree_size" (defScope s_tree_size) f cdv A outer s H E) (defBody s_tree_size) (tTreeZ P wd (spF K cl 3 F_is_free) (spZ true P wd C j) (spZ false P wd C j)) := by
  have hr0 := hr
  have hu : (XX P wd K mg base N_tree_size "tree_size" (defScope s_tree_size) f cdv A outer s H E).A.units + 64 < cLine := hr.units
  have hu1 : (XX P wd K mg base N_tree_size "tree_size" (defScope s_tree_size) f cdv A outer s H E).A.units + 1 < cLine := by omega
  have nd : (XX P wd K mg base N_tree_size "tree_size" (defScope s_tree_size) f cdv A outer s H E).N.Nodup := sc_tree_size.nd
  have v0 : ∀ pos, PE (XX P wd K mg base N_tree_size "tree_size" (defScope s_tree_size) f cdv A outer s H E) (.Name "leaves" pos) (tVar 0) := fun _ => pv 0
  have v1 : ∀ pos, PE (XX P wd K mg base N_tree_size "tree_size" (defScope s_tree_size) f cdv A outer s H E) (.Name "height" pos) (tVar 1) := fun _ => pv 1
  have v2 : ∀ pos, PE (XX P wd K mg base N_tree_size "tree_size" (defScope s_tree_size) f cdv A outer s H E) (.Name "branching" pos) (tVar 2) := fun _ => pv 2
  have v3 : ∀ pos, PE (XX P wd K mg base N_tree_size "tree_size" (defScope s_tree_size) f cdv A outer s H E) (.Name "known" pos) (tVar 3) := fun _ => pv 3
  have v4 : ∀ pos, PE (XX P wd K mg base N_tree_size "tree_size" (defScope s_tree_size) f cdv A outer s H E) (.Name "key" pos) (tVar 4) := fun _ => pv 4
  have v5 : ∀ pos, PE (XX P wd K mg base N_tree_size "tree_size" (defScope s_tree_size) f cdv A outer s H E) (.Name "size" pos) (tVar 5) := fun _ => pv 5
  exact (pss_cons (ps_if (pt_cmp (pc_eqI (v1 _) pe_int)) (pss_one (ps_ret pe_int)) pss_nil)
    (pss_cons (ps_asg (pe_tup (pa_cons pe_str (pa_cons (v0 _) (pa_cons (v1 _) (pa_cons (v2 _) pa_nil))))) (pg_name nd rfl (.inl rfl)))
    (pss_cons (ps_if (pt_cmp (pc_mnot hu1 (v4 _) (v3 _))) (pss_cons (ps_if (pt_val (pe_callZ c_is_free.toS hr0 (by rfl) (pa_cons (v0 _) (pa_cons (v1 _) (pa_cons (v2 _) pa_nil)))))
        (pss_one (ps_asg (pe_callZ c_row_size hr0 (by rfl) (pa_cons (v0 _) (pa_cons (pe_sub (v1 _) pe_int) (pa_cons pe_non (pa_cons (v3 _) pa_nil))))) (pg_name nd rfl (.inl rfl))))
        (pss_cons (ps_asg (pe_callZ c_tree_size hr0 (by rfl) (pa_cons (v0 _) (pa_cons (pe_sub (v1 _) pe_int) (pa_cons (v2 _) (pa_cons (v3 _) pa_nil))))) (pg_name nd rfl (.inl rfl))) (pss_one (ps_if (pt_cmp (pc_gt (v2 _) pe_int)) (pss_one (ps_asg (pe_add (v5 _) (pe_mul pe_int (pe_callZ c_row_size hr0 (by rfl) (pa_cons (pe_sub (v0 _) pe_int) (pa_cons (pe_sub (v1 _) pe_int) (pa_cons (pe_sub (v2 _) pe_int) (pa_cons (v3 _) pa_nil))))))) (pg_name nd rfl (.inl rfl)))) pss_nil))))
      (pss_one (ps_mput hu1 (v3 _) (v4 _) (v5 _) (by rfl)))) pss_nil)
    (pss_one (ps_ret (pe_mget hu1 (v3 _) (v4 _) (by intro _ _; rfl)))))))
theorem fh_val (m : Nat) : toD (F_first_half [D.int m]) = some (D.int ((m / 2 : Nat) : Int)) := by
  show some (D.int ((m : Int) / 2)) = _
  rw [show (m : Int) / 2 = ((m / 2 : Nat) : Int) by omega]
theorem lh_val (m : Nat) (hm : 0 < m) : toD (F_last_half [D.int m]) = some (D.int (((m + 1) / 2 - 1 : Nat) : Int)) := by
  show some (D.int (((m : Int) + 1) / 2 - 1)) = _
  rw [show ((m : Int) + 1) / 2 - 1 = (((m + 1) / 2 - 1 : Nat) : Int) by omega]
theorem if_val (m h : Nat) (b : Option Nat) : toD (F_is_free [D.int m, D.int h, bD b]) = some (D.bl (freeZ m h b)) := by
  cases b with
  | none => rfl
  | some k =>
    show toD (F_is_free [D.int m, D.int h, D.int k]) = some (D.bl (decide (((Builtin.Int.intBits (m : Int) : Nat) : Int) ≤ (k : Int)) || decide ((h : Int) < (k : Int))))
    unfold F_is_free runF m_is_free sRet eOr eBin eVar e1o oBits
    by_cases c : ((Builtin.Int.intBits (m : Int) : Nat) : Int) ≤ (k : Int)
    · rw [decide_eq_true c]
      simp [c, cellAt, startR, isNonD, oLe, oLt, oCmp, toD, retOf]
    · rw [decide_eq_false c]
      simp [c, cellAt, startR, isNonD, oLe, oLt, oCmp, toD, retOf]
theorem dd_sizes {P : Program} {wd : World} {K : PySem.W.Frag} {mg : Str → Option Value} {base : Heap} {cl : Nat → ClsT} {C : Bool → Nat → Nat → Option Nat → Prop} (hC : Clz C) (B : Bt mg) (kk : Ks K mg cl) (a_row_size : At K mg "row_size" s_row_size) (a_tree_size : At K mg "tree_size" s_tree_size) (c_first_half : Def P wd K mg base cl 1 "first_half" 1 F_first_half) (c_last_half : Def P wd K mg base cl 1 "last_half" 1 F_last_half) (c_is_free : Def P wd K mg base cl 1 "is_free" 3 F_is_free) :
    ∀ j, DefS P wd K mg base (j + 1) "row_size" (spZ true P wd C j) ∧ DefS P wd K mg base (j + 1) "tree_size" (spZ false P wd C j)
  | 0 => ⟨defS_no a_row_size (fun _ _ F => F.binds (ps := ["number", "height", "branching", "known"]) fun _ _ _ _ _ _ us hl => match us, hl with | [_, _, _, _], _ => rfl) fun vs H Q E ⟨m, h, d, b, a, kvs, _, _, _, _, z, _⟩ => by omega, defS_no a_tree_size (fun _ _ F => F.binds (ps := ["leaves", "height", "branching", "known"]) fun _ _ _ _ _ _ us hl => match us, hl with | [_, _, _, _], _ => rfl) fun vs H Q E ⟨m, h, d, b, a, kvs, _, _, _, _, z, _⟩ => by omega⟩
  | j + 1 => by
    obtain ⟨i1, i2⟩ := dd_sizes hC B kk a_row_size a_tree_size c_first_half c_last_half c_is_free j
    refine ⟨defS_of a_row_size sc_row_size (fun _ _ F => F.binds (ps := ["number", "height", "branching", "known"]) fun _ _ _ _ _ _ us hl => match us, hl with | [_, _, _, _], _ => rfl) (fun vs H Q E h => ?_) fun f cdv A outer s H vs Q E hr h => ?_, defS_of a_tree_size sc_tree_size (fun _ _ F => F.binds (ps := ["leaves", "height", "branching", "known"]) fun _ _ _ _ _ _ us hl => match us, hl with | [_, _, _, _], _ => rfl) (fun vs H Q E h => ?_) fun f cdv A outer s H vs Q E hr h => ?_⟩
    · obtain ⟨m, h, d, b, a, kvs, rfl, _⟩ := h
      rfl
    · obtain ⟨m, h, d, b, a, kvs, rfl, hc, _, hd, hk, mem, g, q⟩ := h
      exact ⟨_, b_row_size B kk (c_first_half.mono (by omega)) (c_last_half.mono (by omega)) i1 i2 hr, row_sem hC fh_val lh_val hc hd (by rw [if_pos rfl] at hk; omega) mem g q⟩
    · obtain ⟨m, h, d, b, a, kvs, rfl, _⟩ := h
      rfl
    · obtain ⟨m, h, d, b, a, kvs, rfl, hc, h0, hd, hk, mem, g, q⟩ := h
      exact ⟨_, b_tree_size B kk (c_is_free.mono (by omega)) i1 i2 hr, tree_sem hC if_val hc (h0 rfl) hd (by rw [if_neg (by simp)] at hk; omega) mem g q⟩
abbrev s_universal_size : Stmt := top 8
abbrev N_universal_size : List Str := ["leaves", "height", "branching"]
theorem sc_universal_size : FnScope N_universal_size ["leaves", "height", "branching"] (defScope s_universal_size) := ⟨rfl, rfl, rfl, by decide +kernel, rfl, by decide +kernel, by decide +kernel⟩
abbrev F_universal_size : List D → Ret := uszF
theorem b_universal_size {P : Program} {wd : World} {K : PySem.W.Frag} {mg : Str → Option Value} {base : Heap} {cl : Nat → ClsT} {k : Nat} (B : Bt mg) (kk : Ks K mg cl) {sp : Sp} (c_tree_size : DefS P wd K mg base k "tree_size" sp)
    {f : Addr} {cdv : Value} {A : Around} {outer : List PySem.Env} {s : Shared} {H : Hp} {E : XK} (hr : Fw.Room k (A.deeper (envOfC "universal_size" (defScope s_universal_size) s.heap.objs.size f cdv))) :
    PSs (XX P wd K mg base N_universal_size "universal_size" (defScope s_universal_size) f cdv A outer s H E) (defBody s_universal_size) (tUszZ P wd sp) := by
  have hr0 := hr
  have hu : (XX P wd K mg base N_universal_size "universal_size" (defScope s_universal_size) f cdv A outer s H E).A.units + 64 < cLine := hr.units
  have hu1 : (XX P wd K mg base N_universal_size "universal_size" (defScope s_universal_size) f cdv A outer s H E).A.units + 1 < cLine := by omega
  have nd : (XX P wd K mg base N_universal_size "universal_size" (defScope s_universal_size) f cdv A outer s H E).N.Nodup := sc_universal_size.nd
  have v0 : ∀ pos, PE (XX P wd K mg base N_universal_size "universal_size" (defScope s_universal_size) f cdv A outer s H E) (.Name "leaves" pos) (tVar 0) := fun _ => pv 0
  have v1 : ∀ pos, PE (XX P wd K mg base N_universal_size "universal_size" (defScope s_universal_size) f cdv A outer s H E) (.Name "height" pos) (tVar 1) := fun _ => pv 1
  have v2 : ∀ pos, PE (XX P wd K mg base N_universal_size "universal_size" (defScope s_universal_size) f cdv A outer s H E) (.Name "branching" pos) (tVar 2) := fun _ => pv 2
  exact (pss_one (ps_ret (pe_callZ c_tree_size hr0 (by rfl) (pa_cons (v0 _) (pa_cons (v1 _) (pa_cons (v2 _) (pa_cons pe_mnew pa_nil)))))))
theorem d_universal_size {P : Program} {wd : World} {K : PySem.W.Frag} {mg : Str → Option Value} {base : Heap} {cl : Nat → ClsT} (B : Bt mg) (kk : Ks K mg cl) (a_universal_size : AtK K mg "universal_size" s_universal_size "branching" V.non) (a_row_size : At K mg "row_size" s_row_size) (a_tree_size : At K mg "tree_size" s_tree_size) (c_first_half : Def P wd K mg base cl 1 "first_half" 1 F_first_half) (c_last_half : Def P wd K mg base cl 1 "last_half" 1 F_last_half) (c_is_free : Def P wd K mg base cl 1 "is_free" 3 F_is_free) : DefK P wd K mg base cl 48 "universal_size" 2 "branching" D.non F_universal_size :=
  kdefS_of rfl a_universal_size sc_universal_size rfl (fun _ _ _ _ _ _ us ks h1 h2 => match us, ks, h1, h2 with | [_, _], [_], _, _ => ⟨_, _, _, _, _, _, rfl, rfl, rfl⟩) (fun _ _ _ _ _ _ us ks h1 h2 => match us, ks, h1, h2 with | [_, _], [_], _, _ => rfl) fun f cdv A outer s H vs Q E hr h => by
    obtain ⟨N, hN, hs⟩ := usz_sem h
    have hl : vs.length = 3 := by
      obtain ⟨G, ds, _, h2, h3, _⟩ := h
      rw [h2.length, h3]
    have e : start N_universal_size vs = vs.map some := by
      match vs, hl with
      | [_, _, _], _ => rfl
    rw [e]
    exact ⟨_, b_universal_size B kk (dd_sizes (clz_re hN) B kk a_row_size a_tree_size c_first_half c_last_half c_is_free 46).2 hr, hs _ fun _ _ _ _ z => z⟩
abbrev s_size_bound : Stmt := top 9
abbrev N_size_bound : List Str := ["leaves", "height", "branching", "halvings", "falls"]
theorem sc_size_bound : FnScope N_size_bound ["leaves", "height", "branching"] (defScope s_size_bound) := ⟨rfl, rfl, rfl, by decide +kernel, rfl, by decide +kernel, by decide +kernel⟩
def m_size_bound : Sf :=
    (sSeq (sIf (tB1 (eBin oEq (eVar 1) (eC (.int 0))))
    (sRet (eC (.int 1)))
    sNext)
    (sSeq (sSet 3 (eBin oSub (e1o oBits (eVar 0)) (eC (.int 1))))
    (sSeq (sIf (tB1 (eBin oIsN (eVar 2) (eC .non)))
    (sRet (eBin oMul (eVar 0) (eArgs oComb (aCons (eBin oSub (eBin oAdd (eVar 3) (eVar 1)) (eC (.int 1))) (aCons (eBin oSub (eVar 1) (eC (.int 1))) aNil)))))
    sNext)
    (sSeq (sSet 4 (eBin oSub (eArgs oMinL (aCons (fL (aLst (aCons (eVar 2) (aCons (eBin oAdd (eVar 1) (eC (.int 1))) (aCons (eBin oAdd (eVar 3) (eC (.int 1))) aNil))))) aNil)) (eC (.int 1))))
    (sRet (eBin oMul (eBin oMul (eBin oShl (eVar 0) (eVar 4)) (eArgs oComb (aCons (eVar 1) (aCons (eVar 4) aNil)))) (eArgs oComb (aCons (eBin oAdd (eVar 3) (eVar 4)) (aCons (eVar 4) aNil)))))))))
def F_size_bound : List D → Ret := runF 5 m_size_bound
theorem b_size_bound {P : Program} {wd : World} {K : PySem.W.Frag} {mg : Str → Option Value} {base : Heap} {cl : Nat → ClsT} {k : Nat} (B : Bt mg) (kk : Ks K mg cl)
    {f : Addr} {cdv : Value} {A : Around} {outer : List PySem.Env} {s : Shared} {H : Hp} {E : XK} {G0 H0 : Hp} {sf : Nat → Addr} (hr : Fw.Room k (A.deeper (envOfC "size_bound" (defScope s_size_bound) s.heap.objs.size f cdv))) :
    VSs ⟨cl, G0, H0, sf, wNone, 0⟩ (XX P wd K mg base N_size_bound "size_bound" (defScope s_size_bound) f cdv A outer s H E) (defBody s_size_bound) (m_size_bound) := by
  have hr0 := hr
  have hgd : (XX P wd K mg base N_size_bound "size_bound" (defScope s_size_bound) f cdv A outer s H E).A.guards = some [] := hr.gd
  have hu : (XX P wd K mg base N_size_bound "size_bound" (defScope s_size_bound) f cdv A outer s H E).A.units + 64 < cLine := hr.units
  have nd : (XX P wd K mg base N_size_bound "size_bound" (defScope s_size_bound) f cdv A outer s H E).N.Nodup := sc_size_bound.nd
  have v0 : ∀ pos, PE (XX P wd K mg base N_size_bound "size_bound" (defScope s_size_bound) f cdv A outer s H E) (.Name "leaves" pos) (tVar 0) := fun _ => pv 0
  have v1 : ∀ pos, PE (XX P wd K mg base N_size_bound "size_bound" (defScope s_size_bound) f cdv A outer s H E) (.Name "height" pos) (tVar 1) := fun _ => pv 1
  have v2 : ∀ pos, PE (XX P wd K mg base N_size_bound "size_bound" (defScope s_size_bound) f cdv A outer s H E) (.Name "branching" pos) (tVar 2) := fun _ => pv 2
  have v3 : ∀ pos, PE (XX P wd K mg base N_size_bound "size_bound" (defScope s_size_bound) f cdv A outer s H E) (.Name "halvings" pos) (tVar 3) := fun _ => pv 3
  have v4 : ∀ pos, PE (XX P wd K mg base N_size_bound "size_bound" (defScope s_size_bound) f cdv A outer s H E) (.Name "falls" pos) (tVar 4) := fun _ => pv 4
  exact (vss_cons (vs_if (vt_cmp (op_eqB hu) r_eq (toO (ve_var (v1 _))) (toO ve_int) (nomark _))
    (vss_one (vs_ret ve_int))
    vss_nil)
    (vss_cons (vs_set nd rfl (.inl rfl) (ve_bin op_sub r_sub (toO (ve_bits (toO (ve_var (v0 _))))) (toO ve_int)))
    (vss_cons (vs_if (vt_cmp op_isN r_isN (toO (ve_var (v2 _))) (toO ve_non) (nomark _))
    (vss_one (vs_ret (ve_bin op_mulD r_mul (toO (ve_var (v0 _))) (toO (ve_callG cr_comb r_comb (by rfl) kk.g_comb (vo_cons (toO (ve_bin op_sub r_sub (toO (ve_bin op_addD r_add (toO (ve_var (v3 _))) (toO (ve_var (v1 _))))) (toO ve_int))) (vo_cons (toO (ve_bin op_sub r_sub (toO (ve_var (v1 _))) (toO ve_int))) vo_nil)))))))
    vss_nil)
    (vss_cons (vs_set nd rfl (.inl rfl) (ve_bin op_sub r_sub (toO (ve_callB (cr_min rfl) r_minL (by rfl) B.min (by decide +kernel) (vo_cons (toO (ofF (vf_lst (va_cons (ve_var (v2 _)) (va_cons (ve_bin op_addD r_add (toO (ve_var (v1 _))) (toO ve_int)) (va_cons (ve_bin op_addD r_add (toO (ve_var (v3 _))) (toO ve_int)) va_nil)))))) vo_nil))) (toO ve_int)))
    (vss_one (vs_ret (ve_bin op_mulD r_mul (toO (ve_bin op_mulD r_mul (toO (ve_bin op_shl r_shl (toO (ve_var (v0 _))) (toO (ve_var (v4 _))))) (toO (ve_callG cr_comb r_comb (by rfl) kk.g_comb (vo_cons (toO (ve_var (v1 _))) (vo_cons (toO (ve_var (v4 _))) vo_nil)))))) (toO (ve_callG cr_comb r_comb (by rfl) kk.g_comb (vo_cons (toO (ve_bin op_addD r_add (toO (ve_var (v3 _))) (toO (ve_var (v4 _))))) (vo_cons (toO (ve_var (v4 _))) vo_nil)))))))))))
theorem d_size_bound {P : Program} {wd : World} {K : PySem.W.Frag} {mg : Str → Option Value} {base : Heap} {cl : Nat → ClsT} (B : Bt mg) (kk : Ks K mg cl) (a_size_bound : AtK K mg "size_bound" s_size_bound "branching" V.non) : DefK P wd K mg base cl 1 "size_bound" 2 "branching" D.non F_size_bound :=
  kdef_of rfl a_size_bound sc_size_bound rfl (fun _ _ _ _ _ _ us ks h1 h2 => match us, ks, h1, h2 with | [_, _], [_], _, _ => ⟨_, _, _, _, _, _, rfl, rfl, rfl⟩) (fun _ _ _ _ _ _ us ks h1 h2 => match us, ks, h1, h2 with | [_, _], [_], _, _ => rfl) fun f cdv A outer s H E G0 H0 sf hr => b_size_bound (k := 0) B kk hr
abbrev s_law_whole : Stmt := top 11
abbrev N_law_whole : List Str := ["value"]
theorem sc_law_whole : FnScope N_law_whole ["value"] (defScope s_law_whole) := ⟨rfl, rfl, rfl, by decide +kernel, rfl, by decide +kernel, by decide +kernel⟩
theorem b_law_whole {P : Program} {wd : World} {K : PySem.W.Frag} {mg : Str → Option Value} {base : Heap} {cl : Nat → ClsT} {k : Nat} (B : Bt mg) (kk : Ks K mg cl)
    {f : Addr} {cdv : Value} {A : Around} {outer : List PySem.Env} {s : Shared} {H : Hp} {E : XK} {G0 H0 : Hp} {sf : Nat → Addr} (hr : Fw.Room k (A.deeper (envOfC "_law_whole" (defScope s_law_whole) s.heap.objs.size f cdv))) :
    VSs ⟨cl, G0, H0, sf, wNone, 0⟩ (XX P wd K mg base N_law_whole "_law_whole" (defScope s_law_whole) f cdv A outer s H E) (defBody s_law_whole) (m_whole) := by
  have hr0 := hr
  have hgd : (XX P wd K mg base N_law_whole "_law_whole" (defScope s_law_whole) f cdv A outer s H E).A.guards = some [] := hr.gd
  have hu : (XX P wd K mg base N_law_whole "_law_whole" (defScope s_law_whole) f cdv A outer s H E).A.units + 64 < cLine := hr.units
  have nd : (XX P wd K mg base N_law_whole "_law_whole" (defScope s_law_whole) f cdv A outer s H E).N.Nodup := sc_law_whole.nd
  have v0 : ∀ pos, PE (XX P wd K mg base N_law_whole "_law_whole" (defScope s_law_whole) f cdv A outer s H E) (.Name "value" pos) (tVar 0) := fun _ => pv 0
  exact (vss_one (vs_ret (ve_and (ve_callB call_isiD r_isi (by rfl) B.isinstance (by decide +kernel) (vo_cons (toO (ve_var (v0 _))) (vo_cons (toO (ve_ty (by rfl) B.int (by decide +kernel))) vo_nil))) (ve_one (ve_not (ve_callB call_isiD r_isi (by rfl) B.isinstance (by decide +kernel) (vo_cons (toO (ve_var (v0 _))) (vo_cons (toO (ve_ty (by rfl) B.bool (by decide +kernel))) vo_nil))))))))
theorem d_law_whole {P : Program} {wd : World} {K : PySem.W.Frag} {mg : Str → Option Value} {base : Heap} {cl : Nat → ClsT} (B : Bt mg) (kk : Ks K mg cl) (a_law_whole : At K mg "_law_whole" s_law_whole) : Def P wd K mg base cl 1 "_law_whole" 1 wholeF :=
  def_of a_law_whole sc_law_whole (fun _ _ F => F.binds (ps := ["value"]) fun _ _ _ _ _ _ us hl => match us, hl with | [_], _ => rfl) fun f cdv A outer s H E G0 H0 sf hr => b_law_whole (k := 0) B kk hr
abbrev s_law_cell : Stmt := top 12
abbrev N_law_cell : List Str := ["script", "k", "seed", "cell"]
theorem sc_law_cell : FnScope N_law_cell ["script", "k"] (defScope s_law_cell) := ⟨rfl, rfl, rfl, by decide +kernel, rfl, by decide +kernel, by decide +kernel⟩
theorem b_law_cell {P : Program} {wd : World} {K : PySem.W.Frag} {mg : Str → Option Value} {base : Heap} {cl : Nat → ClsT} {k : Nat} (B : Bt mg) (kk : Ks K mg cl)
    {f : Addr} {cdv : Value} {A : Around} {outer : List PySem.Env} {s : Shared} {H : Hp} {E : XK} {G0 H0 : Hp} {sf : Nat → Addr} (hr : Fw.Room k (A.deeper (envOfC "_law_cell" (defScope s_law_cell) s.heap.objs.size f cdv))) :
    VSs ⟨cl, G0, H0, sf, wNone, 0⟩ (XX P wd K mg base N_law_cell "_law_cell" (defScope s_law_cell) f cdv A outer s H E) (defBody s_law_cell) (m_cell) := by
  have hr0 := hr
  have hgd : (XX P wd K mg base N_law_cell "_law_cell" (defScope s_law_cell) f cdv A outer s H E).A.guards = some [] := hr.gd
  have hu : (XX P wd K mg base N_law_cell "_law_cell" (defScope s_law_cell) f cdv A outer s H E).A.units + 64 < cLine := hr.units
  have nd : (XX P wd K mg base N_law_cell "_law_cell" (defScope s_law_cell) f cdv A outer s H E).N.Nodup := sc_law_cell.nd
  have v0 : ∀ pos, PE (XX P wd K mg base N_law_cell "_law_cell" (defScope s_law_cell) f cdv A outer s H E) (.Name "script" pos) (tVar 0) := fun _ => pv 0
  have v1 : ∀ pos, PE (XX P wd K mg base N_law_cell "_law_cell" (defScope s_law_cell) f cdv A outer s H E) (.Name "k" pos) (tVar 1) := fun _ => pv 1
  have v2 : ∀ pos, PE (XX P wd K mg base N_law_cell "_law_cell" (defScope s_law_cell) f cdv A outer s H E) (.Name "seed" pos) (tVar 2) := fun _ => pv 2
  have v3 : ∀ pos, PE (XX P wd K mg base N_law_cell "_law_cell" (defScope s_law_cell) f cdv A outer s H E) (.Name "cell" pos) (tVar 3) := fun _ => pv 3
  exact (vss_cons (vs_if (vt_cmp op_lt r_cmp (toO (ve_var (v1 _))) (toO (ve_callB call_len r_len (by rfl) B.len (by decide +kernel) (vo_cons (toO (ve_var (v0 _))) vo_nil))) (nomark _))
    (vss_one (vs_ret (ve_ix (toO (ve_var (v0 _))) (toO (ve_var (v1 _))) (fun _ _ => rfl))))
    vss_nil)
    (vss_cons (vs_set nd rfl (.inl rfl) ve_int)
    (vss_cons (vs_for PassesOwn.never rfl (vi_items (ve_var (v0 _))) (vg_nm nd rfl (.inl rfl))
    (vss_one (vs_set nd rfl (.inl rfl) (ve_bin op_mod r_mod (toO (ve_callTy call_int1 r_toInt (by rfl) B.int (by decide +kernel) (vo_cons (toO (ve_bin op_addD r_add (toO (ve_bin op_mulD r_mul (toO (ve_var (v2 _))) (toO ve_int))) (toO (ve_bin op_mod r_mod (toO (ve_callTy call_int1 r_toInt (by rfl) B.int (by decide +kernel) (vo_cons (toO (ve_var (v3 _))) vo_nil))) (toO ve_int))))) vo_nil))) (toO ve_int)))))
    (vss_one (vs_ret (ve_bin op_mod r_mod (toO (ve_callTy call_int1 r_toInt (by rfl) B.int (by decide +kernel) (vo_cons (toO (ve_bin op_mulD r_mul (toO (ve_bin op_mulD r_mul (toO (ve_bin op_addD r_add (toO (ve_var (v2 _))) (toO ve_int))) (toO (ve_bin op_addD r_add (toO (ve_var (v1 _))) (toO ve_int))))) (toO ve_int))) vo_nil))) (toO ve_int)))))))
theorem d_law_cell {P : Program} {wd : World} {K : PySem.W.Frag} {mg : Str → Option Value} {base : Heap} {cl : Nat → ClsT} (B : Bt mg) (kk : Ks K mg cl) (a_law_cell : At K mg "_law_cell" s_law_cell) : Def P wd K mg base cl 1 "_law_cell" 2 cellF :=
  def_of a_law_cell sc_law_cell (fun _ _ F => F.binds (ps := ["script", "k"]) fun _ _ _ _ _ _ us hl => match us, hl with | [_, _], _ => rfl) fun f cdv A outer s H E G0 H0 sf hr => b_law_cell (k := 0) B kk hr
abbrev s_law_digits : Stmt := top 13
abbrev N_law_digits : List Str := ["cell", "sizes", "row", "rest", "size", "seed", "k", "twice"]
theorem sc_law_digits : FnScope N_law_digits ["cell", "sizes"] (defScope s_law_digits) := ⟨rfl, rfl, rfl, by decide +kernel, rfl, by decide +kernel, by decide +kernel⟩
theorem b_law_digits {P : Program} {wd : World} {K : PySem.W.Frag} {mg : Str → Option Value} {base : Heap} {cl : Nat → ClsT} {k : Nat} (B : Bt mg) (kk : Ks K mg cl)
    {f : Addr} {cdv : Value} {A : Around} {outer : List PySem.Env} {s : Shared} {H : Hp} {E : XK} {G0 H0 : Hp} {sf : Nat → Addr} (hr : Fw.Room k (A.deeper (envOfC "_law_digits" (defScope s_law_digits) s.heap.objs.size f cdv))) :
    VSs ⟨cl, G0, H0, sf, wNone, 0⟩ (XX P wd K mg base N_law_digits "_law_digits" (defScope s_law_digits) f cdv A outer s H E) (defBody s_law_digits) (m_digits2) := by
  have hr0 := hr
  have hgd : (XX P wd K mg base N_law_digits "_law_digits" (defScope s_law_digits) f cdv A outer s H E).A.guards = some [] := hr.gd
  have hu : (XX P wd K mg base N_law_digits "_law_digits" (defScope s_law_digits) f cdv A outer s H E).A.units + 64 < cLine := hr.units
  have nd : (XX P wd K mg base N_law_digits "_law_digits" (defScope s_law_digits) f cdv A outer s H E).N.Nodup := sc_law_digits.nd
  have v0 : ∀ pos, PE (XX P wd K mg base N_law_digits "_law_digits" (defScope s_law_digits) f cdv A outer s H E) (.Name "cell" pos) (tVar 0) := fun _ => pv 0
  have v1 : ∀ pos, PE (XX P wd K mg base N_law_digits "_law_digits" (defScope s_law_digits) f cdv A outer s H E) (.Name "sizes" pos) (tVar 1) := fun _ => pv 1
  have v2 : ∀ pos, PE (XX P wd K mg base N_law_digits "_law_digits" (defScope s_law_digits) f cdv A outer s H E) (.Name "row" pos) (tVar 2) := fun _ => pv 2
  have v3 : ∀ pos, PE (XX P wd K mg base N_law_digits "_law_digits" (defScope s_law_digits) f cdv A outer s H E) (.Name "rest" pos) (tVar 3) := fun _ => pv 3
  have v4 : ∀ pos, PE (XX P wd K mg base N_law_digits "_law_digits" (defScope s_law_digits) f cdv A outer s H E) (.Name "size" pos) (tVar 4) := fun _ => pv 4
  have v5 : ∀ pos, PE (XX P wd K mg base N_law_digits "_law_digits" (defScope s_law_digits) f cdv A outer s H E) (.Name "seed" pos) (tVar 5) := fun _ => pv 5
  have v6 : ∀ pos, PE (XX P wd K mg base N_law_digits "_law_digits" (defScope s_law_digits) f cdv A outer s H E) (.Name "k" pos) (tVar 6) := fun _ => pv 6
  have v7 : ∀ pos, PE (XX P wd K mg base N_law_digits "_law_digits" (defScope s_law_digits) f cdv A outer s H E) (.Name "twice" pos) (tVar 7) := fun _ => pv 7
  exact (vss_cons (vs_setF nd rfl (.inl rfl) (vf_lst va_nil))
    (vss_cons (vs_set nd rfl (.inl rfl) (ve_callTy call_int1 r_toInt (by rfl) B.int (by decide +kernel) (vo_cons (toO (ve_var (v0 _))) vo_nil)))
    (vss_cons (vs_if (vt_cmp op_ge r_cmp (toO (ve_var (v3 _))) (toO (ve_bin op_pow r_pow (toO ve_int) (toO ve_int))) (nomark _))
    (vss_cons (vs_set nd rfl (.inl rfl) (ve_bin op_sub r_sub (toO (ve_var (v3 _))) (toO (ve_bin op_pow r_pow (toO ve_int) (toO ve_int)))))
    (vss_cons (vs_for PassesOwn.never rfl (vi_items (ve_var (v1 _))) (vg_nm nd rfl (.inl rfl))
    (vss_cons (vs_app (v2 _) (ve_bin op_mod r_mod (toO (ve_callTy call_int1 r_toInt (by rfl) B.int (by decide +kernel) (vo_cons (toO (ve_var (v3 _))) vo_nil))) (toO (ve_var (v4 _)))))
    (vss_one (vs_set nd rfl (.inl rfl) (ve_bin op_fdiv r_fdiv (toO (ve_callTy call_int1 r_toInt (by rfl) B.int (by decide +kernel) (vo_cons (toO (ve_var (v3 _))) vo_nil))) (toO (ve_var (v4 _))))))))
    (vss_one (vs_retV (v2 _)))))
    vss_nil)
    (vss_cons (vs_set nd rfl (.inl rfl) (ve_bin op_mod r_mod (toO (ve_callTy call_int1 r_toInt (by rfl) B.int (by decide +kernel) (vo_cons (toO (ve_var (v3 _))) vo_nil))) (toO ve_int)))
    (vss_cons (vs_for PassesOwn.never rfl (vi_range1 (by rfl) B.range (vo_cons (toO (ve_callB call_len r_len (by rfl) B.len (by decide +kernel) (vo_cons (toO (ve_var (v1 _))) vo_nil))) vo_nil)) (vg_nm nd rfl (.inl rfl))
    (vss_cons (vs_set nd rfl (.inl rfl) (ve_bin op_mod r_mod (toO (ve_callTy call_int1 r_toInt (by rfl) B.int (by decide +kernel) (vo_cons (toO (ve_bin op_addD r_add (toO (ve_bin op_addD r_add (toO (ve_bin op_mulD r_mul (toO (ve_var (v5 _))) (toO ve_int))) (toO (ve_bin op_mulD r_mul (toO ve_int) (toO (ve_var (v6 _))))))) (toO ve_int))) vo_nil))) (toO ve_int)))
    (vss_cons (vs_set nd rfl (.inl rfl) (ve_bin op_mod r_mod (toO (ve_callTy call_int1 r_toInt (by rfl) B.int (by decide +kernel) (vo_cons (toO (ve_bin op_mulD r_mul (toO (ve_var (v5 _))) (toO (ve_bin op_addD r_add (toO (ve_bin op_fdiv r_fdiv (toO (ve_var (v5 _))) (toO ve_int))) (toO ve_int))))) vo_nil))) (toO ve_int)))
    (vss_one (vs_app (v2 _) (ve_bin op_mod r_mod (toO (ve_bin op_fdiv r_fdiv (toO (ve_var (v7 _))) (toO ve_int))) (toO (ve_ix (toO (ve_var (v1 _))) (toO (ve_var (v6 _))) (fun _ _ => rfl)))))))))
    (vss_one (vs_retV (v2 _))))))))
theorem d_law_digits {P : Program} {wd : World} {K : PySem.W.Frag} {mg : Str → Option Value} {base : Heap} {cl : Nat → ClsT} (B : Bt mg) (kk : Ks K mg cl) (a_law_digits : At K mg "_law_digits" s_law_digits) : Def P wd K mg base cl 1 "_law_digits" 2 digits2F :=
  def_of a_law_digits sc_law_digits (fun _ _ F => F.binds (ps := ["cell", "sizes"]) fun _ _ _ _ _ _ us hl => match us, hl with | [_, _], _ => rfl) fun f cdv A outer s H E G0 H0 sf hr => b_law_digits (k := 0) B kk hr
abbrev s_law_free : Stmt := top 14
abbrev N_law_free : List Str := ["n", "h", "k", "power", "step"]
theorem sc_law_free : FnScope N_law_free ["n", "h", "k"] (defScope s_law_free) := ⟨rfl, rfl, rfl, by decide +kernel, rfl, by decide +kernel, by decide +kernel⟩
def m_law_free : Sf :=
    (sSeq (sIf (tOrF (tB1 (eBin oIsN (eVar 2) (eC .non))) (tB1 (eBin oLt (eVar 1) (eVar 2))))
    (sRet (eC (.bl true)))
    sNext)
    (sSeq (sSet 3 (eC (.int 1)))
    (sSeq (sFor (aRng1 (aCons (eVar 2) aNil)) (.nm 4)
    (sSet 3 (eBin oMul (eC (.int 2)) (eVar 3))))
    (sRet (eBin oLt (eVar 0) (eVar 3))))))
def F_law_free : List D → Ret := runF 5 m_law_free
theorem b_law_free {P : Program} {wd : World} {K : PySem.W.Frag} {mg : Str → Option Value} {base : Heap} {cl : Nat → ClsT} {k : Nat} (B : Bt mg) (kk : Ks K mg cl)
    {f : Addr} {cdv : Value} {A : Around} {outer : List PySem.Env} {s : Shared} {H : Hp} {E : XK} {G0 H0 : Hp} {sf : Nat → Addr} (hr : Fw.Room k (A.deeper (envOfC "_law_free" (defScope s_law_free) s.heap.objs.size f cdv))) :
    VSs ⟨cl, G0, H0, sf, wNone, 0⟩ (XX P wd K mg base N_law_free "_law_free" (defScope s_law_free) f cdv A outer s H E) (defBody s_law_free) (m_law_free) := by
  have hr0 := hr
  have hgd : (XX P wd K mg base N_law_free "_law_free" (defScope s_law_free) f cdv A outer s H E).A.guards = some [] := hr.gd
  have hu : (XX P wd K mg base N_law_free "_law_free" (defScope s_law_free) f cdv A outer s H E).A.units + 64 < cLine := hr.units
  have nd : (XX P wd K mg base N_law_free "_law_free" (defScope s_law_free) f cdv A outer s H E).N.Nodup := sc_law_free.nd
  have v0 : ∀ pos, PE (XX P wd K mg base N_law_free "_law_free" (defScope s_law_free) f cdv A outer s H E) (.Name "n" pos) (tVar 0) := fun _ => pv 0
  have v1 : ∀ pos, PE (XX P wd K mg base N_law_free "_law_free" (defScope s_law_free) f cdv A outer s H E) (.Name "h" pos) (tVar 1) := fun _ => pv 1
  have v2 : ∀ pos, PE (XX P wd K mg base N_law_free "_law_free" (defScope s_law_free) f cdv A outer s H E) (.Name "k" pos) (tVar 2) := fun _ => pv 2
  have v3 : ∀ pos, PE (XX P wd K mg base N_law_free "_law_free" (defScope s_law_free) f cdv A outer s H E) (.Name "power" pos) (tVar 3) := fun _ => pv 3
  exact (vss_cons (vs_if (vt_w (vw_or (vt_cmp op_isN r_isN (toO (ve_var (v2 _))) (toO ve_non) (nomark _)) (vw_or1 (vt_cmp op_lt r_cmp (toO (ve_var (v1 _))) (toO (ve_var (v2 _))) (nomark _)))))
    (vss_one (vs_ret ve_bl))
    vss_nil)
    (vss_cons (vs_set nd rfl (.inl rfl) ve_int)
    (vss_cons (vs_for PassesOwn.never rfl (vi_range1 (by rfl) B.range (vo_cons (toO (ve_var (v2 _))) vo_nil)) (vg_nm nd rfl (.inl rfl))
    (vss_one (vs_set nd rfl (.inl rfl) (ve_bin op_mulD r_mul (toO ve_int) (toO (ve_var (v3 _)))))))
    (vss_one (vs_ret (ve_cmp op_lt r_cmp (toO (ve_var (v0 _))) (toO (ve_var (v3 _))) (nomark _)))))))
theorem d_law_free {P : Program} {wd : World} {K : PySem.W.Frag} {mg : Str → Option Value} {base : Heap} {cl : Nat → ClsT} (B : Bt mg) (kk : Ks K mg cl) (a_law_free : At K mg "_law_free" s_law_free) : Def P wd K mg base cl 1 "_law_free" 3 F_law_free :=
  def_of a_law_free sc_law_free (fun _ _ F => F.binds (ps := ["n", "h", "k"]) fun _ _ _ _ _ _ us hl => match us, hl with | [_, _, _], _ => rfl) fun f cdv A outer s H E G0 H0 sf hr => b_law_free (k := 0) B kk hr
abbrev s_law_row_size : Stmt := top 15
abbrev N_law_row_size : List Str := ["number", "h", "k", "table", "key", "many"]
theorem sc_law_row_size : FnScope N_law_row_size ["number", "h", "k", "table"] (defScope s_law_row_size) := ⟨rfl, rfl, rfl, by decide +kernel, rfl, by decide +kernel, by decide +kernel⟩
abbrev s_law_size : Stmt := top 16
abbrev N_law_size : List Str := ["n", "h", "k", "table", "key", "side"]
theorem sc_law_size : FnScope N_law_size ["n", "h", "k", "table"] (defScope s_law_size) := ⟨rfl, rfl, rfl, by decide +kernel, rfl, by decide +kernel, by decide +kernel⟩
theorem b_law_row_size {P : Program} {wd : World} {K : PySem.W.Frag} {mg : Str → Option Value} {base : Heap} {cl : Nat → ClsT} {C : Bool → Nat → Nat → Option Nat → Prop} {k j : Nat} (B : Bt mg) (kk : Ks K mg cl) (c_law_row_size : DefS P wd K mg base k "_law_row_size" (spZ true P wd C j)) (c_law_size : DefS P wd K mg base k "_law_size" (spZ false P wd C j))
    {f : Addr} {cdv : Value} {A : Around} {outer : List PySem.Env} {s : Shared} {H : Hp} {E : XK} (hr : Fw.Room k (A.deeper (envOfC "_law_row_size" (defScope s_law_row_size) s.heap.objs.size f cdv))) :
    PSs (XX P wd K mg base N_law_row_size "_law_row_size" (defScope s_law_row_size) f cdv A outer s H E) (defBody s_law_row_size) (tRowL P wd (spZ true P wd C j) (spZ false P wd C j)) := by
  have hr0 := hr
  have hu : (XX P wd K mg base N_law_row_size "_law_row_size" (defScope s_law_row_size) f cdv A outer s H E).A.units + 64 < cLine := hr.units
  have hu1 : (XX P wd K mg base N_law_row_size "_law_row_size" (defScope s_law_row_size) f cdv A outer s H E).A.units + 1 < cLine := by omega
  have nd : (XX P wd K mg base N_law_row_size "_law_row_size" (defScope s_law_row_size) f cdv A outer s H E).N.Nodup := sc_law_row_size.nd
  have v0 : ∀ pos, PE (XX P wd K mg base N_law_row_size "_law_row_size" (defScope s_law_row_size) f cdv A outer s H E) (.Name "number" pos) (tVar 0) := fun _ => pv 0
  have v1 : ∀ pos, PE (XX P wd K mg base N_law_row_size "_law_row_size" (defScope s_law_row_size) f cdv A outer s H E) (.Name "h" pos) (tVar 1) := fun _ => pv 1
  have v2 : ∀ pos, PE (XX P wd K mg base N_law_row_size "_law_row_size" (defScope s_law_row_size) f cdv A outer s H E) (.Name "k" pos) (tVar 2) := fun _ => pv 2
  have v3 : ∀ pos, PE (XX P wd K mg base N_law_row_size "_law_row_size" (defScope s_law_row_size) f cdv A outer s H E) (.Name "table" pos) (tVar 3) := fun _ => pv 3
  have v4 : ∀ pos, PE (XX P wd K mg base N_law_row_size "_law_row_size" (defScope s_law_row_size) f cdv A outer s H E) (.Name "key" pos) (tVar 4) := fun _ => pv 4
  have v5 : ∀ pos, PE (XX P wd K mg base N_law_row_size "_law_row_size" (defScope s_law_row_size) f cdv A outer s H E) (.Name "many" pos) (tVar 5) := fun _ => pv 5
  exact (pss_cons (ps_if (pt_cmp (pc_eqI (v0 _) pe_int)) (pss_one (ps_ret pe_int)) pss_nil)
    (pss_cons (ps_asg (pe_tup (pa_cons pe_str (pa_cons (v0 _) (pa_cons (v1 _) (pa_cons (v2 _) pa_nil))))) (pg_name nd rfl (.inl rfl)))
    (pss_cons (ps_if (pt_cmp (pc_mnot hu1 (v4 _) (v3 _))) (pss_cons (ps_asg (pe_add (pe_callZ c_law_row_size hr0 (by rfl) (pa_cons (pe_op op_fdiv (v0 _) pe_int) (pa_cons (v1 _) (pa_cons (v2 _) (pa_cons (v3 _) pa_nil))))) (pe_callZ c_law_row_size hr0 (by rfl) (pa_cons (pe_sub (pe_op op_fdiv (pe_add (v0 _) pe_int) pe_int) pe_int) (pa_cons (v1 _) (pa_cons (v2 _) (pa_cons (v3 _) pa_nil)))))) (pg_name nd rfl (.inl rfl)))
      (pss_one (ps_mput hu1 (v3 _) (v4 _) (pe_add (v5 _) (pe_callZ c_law_size hr0 (by rfl) (pa_cons (v0 _) (pa_cons (v1 _) (pa_cons (v2 _) (pa_cons (v3 _) pa_nil)))))) (by rfl)))) pss_nil)
    (pss_one (ps_ret (pe_mget hu1 (v3 _) (v4 _) (by intro _ _; rfl)))))))
theorem b_law_size {P : Program} {wd : World} {K : PySem.W.Frag} {mg : Str → Option Value} {base : Heap} {cl : Nat → ClsT} {C : Bool → Nat → Nat → Option Nat → Prop} {k j : Nat} (B : Bt mg) (kk : Ks K mg cl) (c_law_free : Def P wd K mg base cl k "_law_free" 3 F_law_free) (c_law_row_size : DefS P wd K mg base k "_law_row_size" (spZ true P wd C j)) (c_law_size : DefS P wd K mg base k "_law_size" (spZ false P wd C j))
    {f : Addr} {cdv : Value} {A : Around} {outer : List PySem.Env} {s : Shared} {H : Hp} {E : XK} (hr : Fw.Room k (A.deeper (envOfC "_law_size" (defScope s_law_size) s.heap.objs.size f cdv))) :
    PSs (XX P wd K mg base N_law_size "_law_size" (defScope s_law_size) f cdv A outer s H E) (defBody s_law_size) (tTreeL P wd (spF K cl 3 F_law_free) (spZ true P wd C j) (spZ false P wd C j)) := by
  have hr0 := hr
  have hu : (XX P wd K mg base N_law_size "_law_size" (defScope s_law_size) f cdv A outer s H E).A.units + 64 < cLine := hr.units
  have hu1 : (XX P wd K mg base N_law_size "_law_size" (defScope s_law_size) f cdv A outer s H E).A.units + 1 < cLine := by omega
  have nd : (XX P wd K mg base N_law_size "_law_size" (defScope s_law_size) f cdv A outer s H E).N.Nodup := sc_law_size.nd
  have v0 : ∀ pos, PE (XX P wd K mg base N_law_size "_law_size" (defScope s_law_size) f cdv A outer s H E) (.Name "n" pos) (tVar 0) := fun _ => pv 0
  have v1 : ∀ pos, PE (XX P wd K mg base N_law_size "_law_size" (defScope s_law_size) f cdv A outer s H E) (.Name "h" pos) (tVar 1) := fun _ => pv 1
  have v2 : ∀ pos, PE (XX P wd K mg base N_law_size "_law_size" (defScope s_law_size) f cdv A outer s H E) (.Name "k" pos) (tVar 2) := fun _ => pv 2
  have v3 : ∀ pos, PE (XX P wd K mg base N_law_size "_law_size" (defScope s_law_size) f cdv A outer s H E) (.Name "table" pos) (tVar 3) := fun _ => pv 3
  have v4 : ∀ pos, PE (XX P wd K mg base N_law_size "_law_size" (defScope s_law_size) f cdv A outer s H E) (.Name "key" pos) (tVar 4) := fun _ => pv 4
  have v5 : ∀ pos, PE (XX P wd K mg base N_law_size "_law_size" (defScope s_law_size) f cdv A outer s H E) (.Name "side" pos) (tVar 5) := fun _ => pv 5
  exact (pss_cons (ps_if (pt_cmp (pc_eqI (v1 _) pe_int)) (pss_one (ps_ret pe_int)) pss_nil)
    (pss_cons (ps_asg (pe_tup (pa_cons pe_str (pa_cons (v0 _) (pa_cons (v1 _) (pa_cons (v2 _) pa_nil))))) (pg_name nd rfl (.inl rfl)))
    (pss_cons (ps_if (pt_cmp (pc_mnot hu1 (v4 _) (v3 _))) (pss_one (ps_if (pt_val (pe_callZ c_law_free.toS hr0 (by rfl) (pa_cons (v0 _) (pa_cons (v1 _) (pa_cons (v2 _) pa_nil)))))
        (pss_one (ps_mput hu1 (v3 _) (v4 _) (pe_callZ c_law_row_size hr0 (by rfl) (pa_cons (v0 _) (pa_cons (pe_sub (v1 _) pe_int) (pa_cons pe_non (pa_cons (v3 _) pa_nil))))) (by rfl)))
        (pss_one (ps_if (pt_cmp (pc_eqI (v2 _) pe_int)) (pss_one (ps_mput hu1 (v3 _) (v4 _) (pe_callZ c_law_size hr0 (by rfl) (pa_cons (v0 _) (pa_cons (pe_sub (v1 _) pe_int) (pa_cons pe_int (pa_cons (v3 _) pa_nil))))) (by rfl)))
          (pss_cons (ps_asg (pe_callZ c_law_row_size hr0 (by rfl) (pa_cons (pe_sub (v0 _) pe_int) (pa_cons (pe_sub (v1 _) pe_int) (pa_cons (pe_sub (v2 _) pe_int) (pa_cons (v3 _) pa_nil))))) (pg_name nd rfl (.inl rfl))) (pss_one (ps_mput hu1 (v3 _) (v4 _) (pe_add (pe_add (v5 _) (pe_callZ c_law_size hr0 (by rfl) (pa_cons (v0 _) (pa_cons (pe_sub (v1 _) pe_int) (pa_cons (v2 _) (pa_cons (v3 _) pa_nil)))))) (v5 _)) (by rfl)))))))) pss_nil)
    (pss_one (ps_ret (pe_mget hu1 (v3 _) (v4 _) (by intro _ _; rfl)))))))
theorem lf_val (m h : Nat) (b : Option Nat) (hb : ∀ k, b = some k → 1 ≤ k ∧ k ≤ 1000) : toD (F_law_free [D.int m, D.int h, bD b]) = some (D.bl (freeZ m h b)) := freeL_val m h b hb
theorem dd_lsizes {P : Program} {wd : World} {K : PySem.W.Frag} {mg : Str → Option Value} {base : Heap} {cl : Nat → ClsT} {C : Bool → Nat → Nat → Option Nat → Prop} (hC : Clz C) (hb : ∀ r m h b, C r m h b → ∀ k, b = some k → 1 ≤ k ∧ k ≤ 1000) (B : Bt mg) (kk : Ks K mg cl) (a_law_row_size : At K mg "_law_row_size" s_law_row_size) (a_law_size : At K mg "_law_size" s_law_size) (c_law_free : Def P wd K mg base cl 1 "_law_free" 3 F_law_free) :
    ∀ j, DefS P wd K mg base (j + 1) "_law_row_size" (spZ true P wd C j) ∧ DefS P wd K mg base (j + 1) "_law_size" (spZ false P wd C j)
  | 0 => ⟨defS_no a_law_row_size (fun _ _ F => F.binds (ps := ["number", "h", "k", "table"]) fun _ _ _ _ _ _ us hl => match us, hl with | [_, _, _, _], _ => rfl) fun vs H Q E ⟨m, h, d, b, a, kvs, _, _, _, _, z, _⟩ => by omega, defS_no a_law_size (fun _ _ F => F.binds (ps := ["n", "h", "k", "table"]) fun _ _ _ _ _ _ us hl => match us, hl with | [_, _, _, _], _ => rfl) fun vs H Q E ⟨m, h, d, b, a, kvs, _, _, _, _, z, _⟩ => by omega⟩
  | j + 1 => by
    obtain ⟨i1, i2⟩ := dd_lsizes hC hb B kk a_law_row_size a_law_size c_law_free j
    refine ⟨defS_of a_law_row_size sc_law_row_size (fun _ _ F => F.binds (ps := ["number", "h", "k", "table"]) fun _ _ _ _ _ _ us hl => match us, hl with | [_, _, _, _], _ => rfl) (fun vs H Q E h => ?_) fun f cdv A outer s H vs Q E hr h => ?_, defS_of a_law_size sc_law_size (fun _ _ F => F.binds (ps := ["n", "h", "k", "table"]) fun _ _ _ _ _ _ us hl => match us, hl with | [_, _, _, _], _ => rfl) (fun vs H Q E h => ?_) fun f cdv A outer s H vs Q E hr h => ?_⟩
    · obtain ⟨m, h, d, b, a, kvs, rfl, _⟩ := h
      rfl
    · obtain ⟨m, h, d, b, a, kvs, rfl, hc, _, hd, hk, mem, g, q⟩ := h
      exact ⟨_, b_law_row_size B kk i1 i2 hr, row_semL hC hc hd (by rw [if_pos rfl] at hk; omega) mem g q⟩
    · obtain ⟨m, h, d, b, a, kvs, rfl, _⟩ := h
      rfl
    · obtain ⟨m, h, d, b, a, kvs, rfl, hc, h0, hd, hk, mem, g, q⟩ := h
      exact ⟨_, b_law_size B kk (c_law_free.mono (by omega)) i1 i2 hr, tree_semL hC lf_val hb hc (h0 rfl) hd (by rw [if_neg (by simp)] at hk; omega) mem g q⟩
theorem d_law_size {P : Program} {wd : World} {K : PySem.W.Frag} {mg : Str → Option Value} {base : Heap} {cl : Nat → ClsT} (B : Bt mg) (kk : Ks K mg cl) (a_law_size : At K mg "_law_size" s_law_size) (a_law_row_size : At K mg "_law_row_size" s_law_row_size) (c_law_free : Def P wd K mg base cl 1 "_law_free" 3 F_law_free) : DefZ P wd K mg base 47 "_law_size" :=
  ⟨fun C hC hb => (dd_lsizes hC hb B kk a_law_row_size a_law_size c_law_free 46).2⟩
abbrev s_law_parameters : Stmt := top 17
abbrev N_law_parameters : List Str := ["script", "at", "head", "n", "power", "step", "k"]
theorem sc_law_parameters : FnScope N_law_parameters ["script", "at"] (defScope s_law_parameters) := ⟨rfl, rfl, rfl, by decide +kernel, rfl, by decide +kernel, by decide +kernel⟩
def m_law_parameters : Sf :=
    (sSeq (sSet 2 (eCall digits2F (aCons (eCall cellF (aCons (eVar 0) (aCons (eVar 1) aNil))) (aCons (fL (aLst (aCons (eC (.int 6)) (aCons (eC (.int 1000000)) (aCons (eC (.int 13)) (aCons (eC (.int 5)) (aCons (eC (.int 12)) (aCons (eC (.int 3)) (aCons (eC (.int 2)) (aCons (eC (.int 20)) (aCons (eC (.int 3)) aNil))))))))))) aNil))))
    (sSeq (sSet 3 (eBin oAdd (eC (.int 1)) (eBin oMod (eArgs oToInt (aCons (eBin oIx (eVar 2) (eC (.int 1))) aNil)) (eBin oIx (fL (aLst (aCons (eC (.int 12)) (aCons (eC (.int 1000)) (aCons (eC (.int 1)) (aCons (eC (.int 1)) (aCons (eC (.int 1000000)) (aCons (eC (.int 1000000)) aNil)))))))) (eBin oIx (eVar 2) (eC (.int 0)))))))
    (sSeq (sIf (tOrF (tB1 (eBin oEq (eBin oIx (eVar 2) (eC (.int 0))) (eC (.int 2)))) (tB1 (eBin oEq (eBin oIx (eVar 2) (eC (.int 0))) (eC (.int 3)))))
    (sSeq (sSet 4 (eC (.int 1)))
    (sSeq (sFor (aRng1 (aCons (eBin oIx (eVar 2) (eC (.int 7))) aNil)) (.nm 5)
    (sSet 4 (eBin oMul (eC (.int 2)) (eVar 4))))
    (sSet 3 (eArgs oMax2 (aCons (eC (.int 1)) (aCons (eBin oSub (eBin oAdd (eVar 4) (eBin oIx (eVar 2) (eC (.int 8)))) (eC (.int 1))) aNil))))))
    sNext)
    (sSeq (sSet 6 (eBin oIx (fL (aLst (aCons (eC .non) (aCons (eC .non) (aCons (eBin oAdd (eC (.int 2)) (eBin oIx (eVar 2) (eC (.int 5)))) (aCons (eBin oAdd (eC (.int 2)) (eBin oIx (eVar 2) (eC (.int 5)))) (aCons (eBin oAdd (eC (.int 1)) (eBin oIx (eVar 2) (eC (.int 4)))) aNil))))))) (eBin oIx (eVar 2) (eC (.int 3)))))
    (sRetF (aLst (aCons (eVar 3) (aCons (eBin oIx (eVar 2) (eC (.int 2))) (aCons (eVar 6) (aCons (eBin oEq (eBin oIx (eVar 2) (eC (.int 6))) (eC (.int 0))) aNil))))))))))
def F_law_parameters : List D → Ret := runF 7 m_law_parameters
theorem b_law_parameters {P : Program} {wd : World} {K : PySem.W.Frag} {mg : Str → Option Value} {base : Heap} {cl : Nat → ClsT} {k : Nat} (B : Bt mg) (kk : Ks K mg cl) (c_law_digits : Def P wd K mg base cl k "_law_digits" 2 digits2F) (c_law_cell : Def P wd K mg base cl k "_law_cell" 2 cellF)
    {f : Addr} {cdv : Value} {A : Around} {outer : List PySem.Env} {s : Shared} {H : Hp} {E : XK} {G0 H0 : Hp} {sf : Nat → Addr} (hr : Fw.Room k (A.deeper (envOfC "_law_parameters" (defScope s_law_parameters) s.heap.objs.size f cdv))) :
    VSs ⟨cl, G0, H0, sf, wNone, 0⟩ (XX P wd K mg base N_law_parameters "_law_parameters" (defScope s_law_parameters) f cdv A outer s H E) (defBody s_law_parameters) (m_law_parameters) := by
  have hr0 := hr
  have hgd : (XX P wd K mg base N_law_parameters "_law_parameters" (defScope s_law_parameters) f cdv A outer s H E).A.guards = some [] := hr.gd
  have hu : (XX P wd K mg base N_law_parameters "_law_parameters" (defScope s_law_parameters) f cdv A outer s H E).A.units + 64 < cLine := hr.units
  have nd : (XX P wd K mg base N_law_parameters "_law_parameters" (defScope s_law_parameters) f cdv A outer s H E).N.Nodup := sc_law_parameters.nd
  have v0 : ∀ pos, PE (XX P wd K mg base N_law_parameters "_law_parameters" (defScope s_law_parameters) f cdv A outer s H E) (.Name "script" pos) (tVar 0) := fun _ => pv 0
  have v1 : ∀ pos, PE (XX P wd K mg base N_law_parameters "_law_parameters" (defScope s_law_parameters) f cdv A outer s H E) (.Name "at" pos) (tVar 1) := fun _ => pv 1
  have v2 : ∀ pos, PE (XX P wd K mg base N_law_parameters "_law_parameters" (defScope s_law_parameters) f cdv A outer s H E) (.Name "head" pos) (tVar 2) := fun _ => pv 2
  have v3 : ∀ pos, PE (XX P wd K mg base N_law_parameters "_law_parameters" (defScope s_law_parameters) f cdv A outer s H E) (.Name "n" pos) (tVar 3) := fun _ => pv 3
  have v4 : ∀ pos, PE (XX P wd K mg base N_law_parameters "_law_parameters" (defScope s_law_parameters) f cdv A outer s H E) (.Name "power" pos) (tVar 4) := fun _ => pv 4
  have v6 : ∀ pos, PE (XX P wd K mg base N_law_parameters "_law_parameters" (defScope s_law_parameters) f cdv A outer s H E) (.Name "k" pos) (tVar 6) := fun _ => pv 6
  exact (vss_cons (vs_set nd rfl (.inl rfl) (ve_call c_law_digits hr0 (by rfl) (va_cons (ve_call c_law_cell hr0 (by rfl) (va_cons (ve_var (v0 _)) (va_cons (ve_var (v1 _)) va_nil)) (alen_cons (alen_cons alen_nil))) (va_cons (ofF (vf_lst (va_cons ve_int (va_cons ve_int (va_cons ve_int (va_cons ve_int (va_cons ve_int (va_cons ve_int (va_cons ve_int (va_cons ve_int (va_cons ve_int va_nil))))))))))) va_nil)) (alen_cons (alen_cons alen_nil))))
    (vss_cons (vs_set nd rfl (.inl rfl) (ve_bin op_addD r_add (toO ve_int) (toO (ve_bin op_mod r_mod (toO (ve_callTy call_int1 r_toInt (by rfl) B.int (by decide +kernel) (vo_cons (toO (ve_ix (toO (ve_var (v2 _))) (toO ve_int) (fun _ _ => rfl))) vo_nil))) (toO (ve_ix (toO (ofF (vf_lst (va_cons ve_int (va_cons ve_int (va_cons ve_int (va_cons ve_int (va_cons ve_int (va_cons ve_int va_nil))))))))) (toO (ve_ix (toO (ve_var (v2 _))) (toO ve_int) (fun _ _ => rfl))) (fun _ _ => rfl)))))))
    (vss_cons (vs_if (vt_w (vw_or (vt_cmp (op_eqB hu) r_eq (toO (ve_ix (toO (ve_var (v2 _))) (toO ve_int) (fun _ _ => rfl))) (toO ve_int) (nomark _)) (vw_or1 (vt_cmp (op_eqB hu) r_eq (toO (ve_ix (toO (ve_var (v2 _))) (toO ve_int) (fun _ _ => rfl))) (toO ve_int) (nomark _)))))
    (vss_cons (vs_set nd rfl (.inl rfl) ve_int)
    (vss_cons (vs_for PassesOwn.never rfl (vi_range1 (by rfl) B.range (vo_cons (toO (ve_ix (toO (ve_var (v2 _))) (toO ve_int) (fun _ _ => rfl))) vo_nil)) (vg_nm nd rfl (.inl rfl))
    (vss_one (vs_set nd rfl (.inl rfl) (ve_bin op_mulD r_mul (toO ve_int) (toO (ve_var (v4 _)))))))
    (vss_one (vs_set nd rfl (.inl rfl) (ve_callB (call_max2 rfl) r_max2 (by rfl) B.max (by decide +kernel) (vo_cons (toO ve_int) (vo_cons (toO (ve_bin op_sub r_sub (toO (ve_bin op_addD r_add (toO (ve_var (v4 _))) (toO (ve_ix (toO (ve_var (v2 _))) (toO ve_int) (fun _ _ => rfl))))) (toO ve_int))) vo_nil)))))))
    vss_nil)
    (vss_cons (vs_set nd rfl (.inl rfl) (ve_ix (toO (ofF (vf_lst (va_cons ve_non (va_cons ve_non (va_cons (ve_bin op_addD r_add (toO ve_int) (toO (ve_ix (toO (ve_var (v2 _))) (toO ve_int) (fun _ _ => rfl)))) (va_cons (ve_bin op_addD r_add (toO ve_int) (toO (ve_ix (toO (ve_var (v2 _))) (toO ve_int) (fun _ _ => rfl)))) (va_cons (ve_bin op_addD r_add (toO ve_int) (toO (ve_ix (toO (ve_var (v2 _))) (toO ve_int) (fun _ _ => rfl)))) va_nil)))))))) (toO (ve_ix (toO (ve_var (v2 _))) (toO ve_int) (fun _ _ => rfl))) (fun _ _ => rfl)))
    (vss_one (vs_retF (vf_lst (va_cons (ve_var (v3 _)) (va_cons (ve_ix (toO (ve_var (v2 _))) (toO ve_int) (fun _ _ => rfl)) (va_cons (ve_var (v6 _)) (va_cons (ve_cmp (op_eqB hu) r_eq (toO (ve_ix (toO (ve_var (v2 _))) (toO ve_int) (fun _ _ => rfl))) (toO ve_int) (nomark _)) va_nil)))))))))))
theorem d_law_parameters {P : Program} {wd : World} {K : PySem.W.Frag} {mg : Str → Option Value} {base : Heap} {cl : Nat → ClsT} (B : Bt mg) (kk : Ks K mg cl) (a_law_parameters : At K mg "_law_parameters" s_law_parameters) (c_law_digits : Def P wd K mg base cl 1 "_law_digits" 2 digits2F) (c_law_cell : Def P wd K mg base cl 1 "_law_cell" 2 cellF) : Def P wd K mg base cl 2 "_law_parameters" 2 F_law_parameters :=
  def_of a_law_parameters sc_law_parameters (fun _ _ F => F.binds (ps := ["script", "at"]) fun _ _ _ _ _ _ us hl => match us, hl with | [_, _], _ => rfl) fun f cdv A outer s H E G0 H0 sf hr => b_law_parameters (k := 1) B kk (c_law_digits.mono (by decide)) (c_law_cell.mono (by decide)) hr
abbrev s_law_utmost : Stmt := top 18
abbrev N_law_utmost : List Str := ["script", "at", "head", "k"]
theorem sc_law_utmost : FnScope N_law_utmost ["script", "at"] (defScope s_law_utmost) := ⟨rfl, rfl, rfl, by decide +kernel, rfl, by decide +kernel, by decide +kernel⟩
def m_law_utmost : Sf :=
    (sSeq (sSet 2 (eCall digits2F (aCons (eCall cellF (aCons (eVar 0) (aCons (eVar 1) aNil))) (aCons (fL (aLst (aCons (eC (.int 3)) (aCons (eC (.int 1000)) (aCons (eC (.int 3)) (aCons (eC (.int 13)) (aCons (eC (.int 5)) (aCons (eC (.int 12)) (aCons (eC (.int 2)) aNil))))))))) aNil))))
    (sSeq (sSet 3 (eBin oIx (fL (aLst (aCons (eC .non) (aCons (eC (.int 12)) (aCons (eC (.int 11)) (aCons (eBin oAdd (eC (.int 1)) (eBin oIx (eVar 2) (eC (.int 5)))) (aCons (eBin oAdd (eC (.int 1)) (eBin oIx (eVar 2) (eC (.int 5)))) aNil))))))) (eBin oIx (eVar 2) (eC (.int 4)))))
    (sRetF (aLst (aCons (eBin oIx (fL (aLst (aCons (eC (.int 1000000)) (aCons (eC (.int 999999)) (aCons (eBin oSub (eC (.int 1000000)) (eBin oIx (eVar 2) (eC (.int 1)))) aNil))))) (eBin oIx (eVar 2) (eC (.int 0)))) (aCons (eBin oIx (fL (aLst (aCons (eC (.int 12)) (aCons (eC (.int 11)) (aCons (eBin oIx (eVar 2) (eC (.int 3))) aNil))))) (eBin oIx (eVar 2) (eC (.int 2)))) (aCons (eVar 3) (aCons (eBin oEq (eBin oIx (eVar 2) (eC (.int 6))) (eC (.int 0))) aNil))))))))
def F_law_utmost : List D → Ret := runF 4 m_law_utmost
theorem b_law_utmost {P : Program} {wd : World} {K : PySem.W.Frag} {mg : Str → Option Value} {base : Heap} {cl : Nat → ClsT} {k : Nat} (B : Bt mg) (kk : Ks K mg cl) (c_law_digits : Def P wd K mg base cl k "_law_digits" 2 digits2F) (c_law_cell : Def P wd K mg base cl k "_law_cell" 2 cellF)
    {f : Addr} {cdv : Value} {A : Around} {outer : List PySem.Env} {s : Shared} {H : Hp} {E : XK} {G0 H0 : Hp} {sf : Nat → Addr} (hr : Fw.Room k (A.deeper (envOfC "_law_utmost" (defScope s_law_utmost) s.heap.objs.size f cdv))) :
    VSs ⟨cl, G0, H0, sf, wNone, 0⟩ (XX P wd K mg base N_law_utmost "_law_utmost" (defScope s_law_utmost) f cdv A outer s H E) (defBody s_law_utmost) (m_law_utmost) := by
  have hr0 := hr
  have hgd : (XX P wd K mg base N_law_utmost "_law_utmost" (defScope s_law_utmost) f cdv A outer s H E).A.guards = some [] := hr.gd
  have hu : (XX P wd K mg base N_law_utmost "_law_utmost" (defScope s_law_utmost) f cdv A outer s H E).A.units + 64 < cLine := hr.units
  have nd : (XX P wd K mg base N_law_utmost "_law_utmost" (defScope s_law_utmost) f cdv A outer s H E).N.Nodup := sc_law_utmost.nd
  have v0 : ∀ pos, PE (XX P wd K mg base N_law_utmost "_law_utmost" (defScope s_law_utmost) f cdv A outer s H E) (.Name "script" pos) (tVar 0) := fun _ => pv 0
  have v1 : ∀ pos, PE (XX P wd K mg base N_law_utmost "_law_utmost" (defScope s_law_utmost) f cdv A outer s H E) (.Name "at" pos) (tVar 1) := fun _ => pv 1
  have v2 : ∀ pos, PE (XX P wd K mg base N_law_utmost "_law_utmost" (defScope s_law_utmost) f cdv A outer s H E) (.Name "head" pos) (tVar 2) := fun _ => pv 2
  have v3 : ∀ pos, PE (XX P wd K mg base N_law_utmost "_law_utmost" (defScope s_law_utmost) f cdv A outer s H E) (.Name "k" pos) (tVar 3) := fun _ => pv 3
  exact (vss_cons (vs_set nd rfl (.inl rfl) (ve_call c_law_digits hr0 (by rfl) (va_cons (ve_call c_law_cell hr0 (by rfl) (va_cons (ve_var (v0 _)) (va_cons (ve_var (v1 _)) va_nil)) (alen_cons (alen_cons alen_nil))) (va_cons (ofF (vf_lst (va_cons ve_int (va_cons ve_int (va_cons ve_int (va_cons ve_int (va_cons ve_int (va_cons ve_int (va_cons ve_int va_nil))))))))) va_nil)) (alen_cons (alen_cons alen_nil))))
    (vss_cons (vs_set nd rfl (.inl rfl) (ve_ix (toO (ofF (vf_lst (va_cons ve_non (va_cons ve_int (va_cons ve_int (va_cons (ve_bin op_addD r_add (toO ve_int) (toO (ve_ix (toO (ve_var (v2 _))) (toO ve_int) (fun _ _ => rfl)))) (va_cons (ve_bin op_addD r_add (toO ve_int) (toO (ve_ix (toO (ve_var (v2 _))) (toO ve_int) (fun _ _ => rfl)))) va_nil)))))))) (toO (ve_ix (toO (ve_var (v2 _))) (toO ve_int) (fun _ _ => rfl))) (fun _ _ => rfl)))
    (vss_one (vs_retF (vf_lst (va_cons (ve_ix (toO (ofF (vf_lst (va_cons ve_int (va_cons ve_int (va_cons (ve_bin op_sub r_sub (toO ve_int) (toO (ve_ix (toO (ve_var (v2 _))) (toO ve_int) (fun _ _ => rfl)))) va_nil)))))) (toO (ve_ix (toO (ve_var (v2 _))) (toO ve_int) (fun _ _ => rfl))) (fun _ _ => rfl)) (va_cons (ve_ix (toO (ofF (vf_lst (va_cons ve_int (va_cons ve_int (va_cons (ve_ix (toO (ve_var (v2 _))) (toO ve_int) (fun _ _ => rfl)) va_nil)))))) (toO (ve_ix (toO (ve_var (v2 _))) (toO ve_int) (fun _ _ => rfl))) (fun _ _ => rfl)) (va_cons (ve_var (v3 _)) (va_cons (ve_cmp (op_eqB hu) r_eq (toO (ve_ix (toO (ve_var (v2 _))) (toO ve_int) (fun _ _ => rfl))) (toO ve_int) (nomark _)) va_nil)))))))))
theorem d_law_utmost {P : Program} {wd : World} {K : PySem.W.Frag} {mg : Str → Option Value} {base : Heap} {cl : Nat → ClsT} (B : Bt mg) (kk : Ks K mg cl) (a_law_utmost : At K mg "_law_utmost" s_law_utmost) (c_law_digits : Def P wd K mg base cl 1 "_law_digits" 2 digits2F) (c_law_cell : Def P wd K mg base cl 1 "_law_cell" 2 cellF) : Def P wd K mg base cl 2 "_law_utmost" 2 F_law_utmost :=
  def_of a_law_utmost sc_law_utmost (fun _ _ F => F.binds (ps := ["script", "at"]) fun _ _ _ _ _ _ us hl => match us, hl with | [_, _], _ => rfl) fun f cdv A outer s H E G0 H0 sf hr => b_law_utmost (k := 1) B kk (c_law_digits.mono (by decide)) (c_law_cell.mono (by decide)) hr
abbrev s_law_binomial : Stmt := top 19
abbrev N_law_binomial : List Str := ["a", "b", "row", "step", "j"]
theorem sc_law_binomial : FnScope N_law_binomial ["a", "b"] (defScope s_law_binomial) := ⟨rfl, rfl, rfl, by decide +kernel, rfl, by decide +kernel, by decide +kernel⟩
def m_law_binomial : Sf :=
    (sSeq (sSet 2 (fL (aLst (aCons (eC (.int 1)) aNil))))
    (sSeq (sFor (aRng1 (aCons (eVar 0) aNil)) (.nm 3)
    (sSet 2 (fL (aBin oCatL (fL (aBin oCatL (fL (aLst (aCons (eC (.int 1)) aNil))) (fL (aComp (aRng1 (aCons (eBin oSub (eArgs oLen (aCons (eVar 2) aNil)) (eC (.int 1))) aNil)) (.nm 4) tYesF (eBin oAdd (eBin oIx (eVar 2) (eVar 4)) (eBin oIx (eVar 2) (eBin oAdd (eVar 4) (eC (.int 1))))))))) (fL (aLst (aCons (eC (.int 1)) aNil)))))))
    (sRet (eBin oIx (eVar 2) (eVar 1)))))
def F_law_binomial : List D → Ret := runF 5 m_law_binomial
theorem b_law_binomial {P : Program} {wd : World} {K : PySem.W.Frag} {mg : Str → Option Value} {base : Heap} {cl : Nat → ClsT} {k : Nat} (B : Bt mg) (kk : Ks K mg cl)
    {f : Addr} {cdv : Value} {A : Around} {outer : List PySem.Env} {s : Shared} {H : Hp} {E : XK} {G0 H0 : Hp} {sf : Nat → Addr} (hr : Fw.Room k (A.deeper (envOfC "_law_binomial" (defScope s_law_binomial) s.heap.objs.size f cdv))) :
    VSs ⟨cl, G0, H0, sf, wNone, 0⟩ (XX P wd K mg base N_law_binomial "_law_binomial" (defScope s_law_binomial) f cdv A outer s H E) (defBody s_law_binomial) (m_law_binomial) := by
  have hr0 := hr
  have hgd : (XX P wd K mg base N_law_binomial "_law_binomial" (defScope s_law_binomial) f cdv A outer s H E).A.guards = some [] := hr.gd
  have hu : (XX P wd K mg base N_law_binomial "_law_binomial" (defScope s_law_binomial) f cdv A outer s H E).A.units + 64 < cLine := hr.units
  have nd : (XX P wd K mg base N_law_binomial "_law_binomial" (defScope s_law_binomial) f cdv A outer s H E).N.Nodup := sc_law_binomial.nd
  have v0 : ∀ pos, PE (XX P wd K mg base N_law_binomial "_law_binomial" (defScope s_law_binomial) f cdv A outer s H E) (.Name "a" pos) (tVar 0) := fun _ => pv 0
  have v1 : ∀ pos, PE (XX P wd K mg base N_law_binomial "_law_binomial" (defScope s_law_binomial) f cdv A outer s H E) (.Name "b" pos) (tVar 1) := fun _ => pv 1
  have v2 : ∀ pos, PE (XX P wd K mg base N_law_binomial "_law_binomial" (defScope s_law_binomial) f cdv A outer s H E) (.Name "row" pos) (tVar 2) := fun _ => pv 2
  exact (vss_cons (vs_set nd rfl (.inr rfl) (ofF (vf_lst (va_cons ve_int va_nil))))
    (vss_cons (vs_for PassesOwn.never rfl (vi_range1 (by rfl) B.range (vo_cons (toO (ve_var (v0 _))) vo_nil)) (vg_nm nd rfl (.inl rfl))
    (vss_one (vs_set nd rfl (.inr rfl) (ofF (vf_bin op_cat r_catL (toO (ofF (vf_bin op_cat r_catL (toO (ofF (vf_lst (va_cons ve_int va_nil)))) (toO (ofF (vf_comp rfl nd (vi_range1 (by rfl) B.range (vo_cons (toO (ve_bin op_sub r_sub (toO (ve_callB call_len r_len (by rfl) B.len (by decide +kernel) (vo_cons (toO (ve_var (v2 _))) vo_nil))) (toO ve_int))) vo_nil)) (blkOk_by (own := [("j", 4)]) (N := N_law_binomial) (sc := (defScope s_law_binomial)) (by decide +kernel)) rfl (fun _ _ _ _ _ => (vg_nm nd rfl (by first | exact .inl rfl | exact .inr rfl))) (fun _ _ _ _ _ => vts_nil) (fun _ _ _ _ _ => (ve_bin op_addD r_add (toO (ve_ix (toO (ve_var (pv 2))) (toO (ve_var (pv 4))) (fun _ _ => rfl))) (toO (ve_ix (toO (ve_var (pv 2))) (toO (ve_bin op_addD r_add (toO (ve_var (pv 4))) (toO ve_int))) (fun _ _ => rfl))))))))))) (toO (ofF (vf_lst (va_cons ve_int va_nil)))))))))
    (vss_one (vs_ret (ve_ix (toO (ve_var (v2 _))) (toO (ve_var (v1 _))) (fun _ _ => rfl))))))
theorem d_law_binomial {P : Program} {wd : World} {K : PySem.W.Frag} {mg : Str → Option Value} {base : Heap} {cl : Nat → ClsT} (B : Bt mg) (kk : Ks K mg cl) (a_law_binomial : At K mg "_law_binomial" s_law_binomial) : Def P wd K mg base cl 1 "_law_binomial" 2 F_law_binomial :=
  def_of a_law_binomial sc_law_binomial (fun _ _ F => F.binds (ps := ["a", "b"]) fun _ _ _ _ _ _ us hl => match us, hl with | [_, _], _ => rfl) fun f cdv A outer s H E G0 H0 sf hr => b_law_binomial (k := 0) B kk hr
abbrev s_law_bound : Stmt := top 20
abbrev N_law_bound : List Str := ["n", "h", "k", "power", "e", "step", "b", "many"]
theorem sc_law_bound : FnScope N_law_bound ["n", "h", "k"] (defScope s_law_bound) := ⟨rfl, rfl, rfl, by decide +kernel, rfl, by decide +kernel, by decide +kernel⟩
def m_law_bound : Sf :=
    (sSeq (sIf (tB1 (eBin oEq (eVar 1) (eC (.int 0))))
    (sRet (eC (.int 1)))
    sNext)
    (sSeq (sSet 3 (eC (.int 1)))
    (sSeq (sSet 4 (eC (.int 0)))
    (sSeq (sFor (aRng1 (aCons (eC (.int 64)) aNil)) (.nm 5)
    (sSeq (sIf (tB1 (eBin oGt (eBin oMul (eC (.int 2)) (eVar 3)) (eVar 0)))
    sBreak
    sNext)
    (sSeq (sSet 3 (eBin oMul (eC (.int 2)) (eVar 3)))
    (sSet 4 (eBin oAdd (eVar 4) (eC (.int 1)))))))
    (sSeq (sIf (tB1 (eBin oIsN (eVar 2) (eC .non)))
    (sRet (eBin oMul (eVar 0) (eCall F_law_binomial (aCons (eBin oSub (eBin oAdd (eVar 4) (eVar 1)) (eC (.int 1))) (aCons (eBin oSub (eVar 1) (eC (.int 1))) aNil)))))
    sNext)
    (sSeq (sSet 6 (eArgs oMin3 (aCons (eVar 2) (aCons (eBin oAdd (eVar 1) (eC (.int 1))) (aCons (eBin oAdd (eVar 4) (eC (.int 1))) aNil)))))
    (sSeq (sSet 7 (eVar 0))
    (sSeq (sFor (aRng1 (aCons (eBin oSub (eVar 6) (eC (.int 1))) aNil)) (.nm 5)
    (sSet 7 (eBin oMul (eC (.int 2)) (eVar 7))))
    (sRet (eBin oMul (eBin oMul (eVar 7) (eCall F_law_binomial (aCons (eVar 1) (aCons (eBin oSub (eVar 6) (eC (.int 1))) aNil)))) (eCall F_law_binomial (aCons (eBin oSub (eBin oAdd (eVar 4) (eVar 6)) (eC (.int 1))) (aCons (eBin oSub (eVar 6) (eC (.int 1))) aNil)))))))))))))
def F_law_bound : List D → Ret := runF 8 m_law_bound
theorem b_law_bound {P : Program} {wd : World} {K : PySem.W.Frag} {mg : Str → Option Value} {base : Heap} {cl : Nat → ClsT} {k : Nat} (B : Bt mg) (kk : Ks K mg cl) (c_law_binomial : Def P wd K mg base cl k "_law_binomial" 2 F_law_binomial)
    {f : Addr} {cdv : Value} {A : Around} {outer : List PySem.Env} {s : Shared} {H : Hp} {E : XK} {G0 H0 : Hp} {sf : Nat → Addr} (hr : Fw.Room k (A.deeper (envOfC "_law_bound" (defScope s_law_bound) s.heap.objs.size f cdv))) :
    VSs ⟨cl, G0, H0, sf, wNone, 0⟩ (XX P wd K mg base N_law_bound "_law_bound" (defScope s_law_bound) f cdv A outer s H E) (defBody s_law_bound) (m_law_bound) := by
  have hr0 := hr
  have hgd : (XX P wd K mg base N_law_bound "_law_bound" (defScope s_law_bound) f cdv A outer s H E).A.guards = some [] := hr.gd
  have hu : (XX P wd K mg base N_law_bound "_law_bound" (defScope s_law_bound) f cdv A outer s H E).A.units + 64 < cLine := hr.units
  have nd : (XX P wd K mg base N_law_bound "_law_bound" (defScope s_law_bound) f cdv A outer s H E).N.Nodup := sc_law_bound.nd
  have v0 : ∀ pos, PE (XX P wd K mg base N_law_bound "_law_bound" (defScope s_law_bound) f cdv A outer s H E) (.Name "n" pos) (tVar 0) := fun _ => pv 0
  have v1 : ∀ pos, PE (XX P wd K mg base N_law_bound "_law_bound" (defScope s_law_bound) f cdv A outer s H E) (.Name "h" pos) (tVar 1) := fun _ => pv 1
  have v2 : ∀ pos, PE (XX P wd K mg base N_law_bound "_law_bound" (defScope s_law_bound) f cdv A outer s H E) (.Name "k" pos) (tVar 2) := fun _ => pv 2
  have v3 : ∀ pos, PE (XX P wd K mg base N_law_bound "_law_bound" (defScope s_law_bound) f cdv A outer s H E) (.Name "power" pos) (tVar 3) := fun _ => pv 3
  have v4 : ∀ pos, PE (XX P wd K mg base N_law_bound "_law_bound" (defScope s_law_bound) f cdv A outer s H E) (.Name "e" pos) (tVar 4) := fun _ => pv 4
  have v6 : ∀ pos, PE (XX P wd K mg base N_law_bound "_law_bound" (defScope s_law_bound) f cdv A outer s H E) (.Name "b" pos) (tVar 6) := fun _ => pv 6
  have v7 : ∀ pos, PE (XX P wd K mg base N_law_bound "_law_bound" (defScope s_law_bound) f cdv A outer s H E) (.Name "many" pos) (tVar 7) := fun _ => pv 7
  exact (vss_cons (vs_if (vt_cmp (op_eqB hu) r_eq (toO (ve_var (v1 _))) (toO ve_int) (nomark _))
    (vss_one (vs_ret ve_int))
    vss_nil)
    (vss_cons (vs_set nd rfl (.inl rfl) ve_int)
    (vss_cons (vs_set nd rfl (.inl rfl) ve_int)
    (vss_cons (vs_for PassesOwn.never rfl (vi_range1 (by rfl) B.range (vo_cons (toO ve_int) vo_nil)) (vg_nm nd rfl (.inl rfl))
    (vss_cons (vs_if (vt_cmp op_gt r_cmp (toO (ve_bin op_mulD r_mul (toO ve_int) (toO (ve_var (v3 _))))) (toO (ve_var (v0 _))) (nomark _))
    (vss_one vs_break)
    vss_nil)
    (vss_cons (vs_set nd rfl (.inl rfl) (ve_bin op_mulD r_mul (toO ve_int) (toO (ve_var (v3 _)))))
    (vss_one (vs_set nd rfl (.inl rfl) (ve_bin op_addD r_add (toO (ve_var (v4 _))) (toO ve_int)))))))
    (vss_cons (vs_if (vt_cmp op_isN r_isN (toO (ve_var (v2 _))) (toO ve_non) (nomark _))
    (vss_one (vs_ret (ve_bin op_mulD r_mul (toO (ve_var (v0 _))) (toO (ve_call c_law_binomial hr0 (by rfl) (va_cons (ve_bin op_sub r_sub (toO (ve_bin op_addD r_add (toO (ve_var (v4 _))) (toO (ve_var (v1 _))))) (toO ve_int)) (va_cons (ve_bin op_sub r_sub (toO (ve_var (v1 _))) (toO ve_int)) va_nil)) (alen_cons (alen_cons alen_nil)))))))
    vss_nil)
    (vss_cons (vs_set nd rfl (.inl rfl) (ve_callB (call_min3Nu rfl) r_min3 (by rfl) B.min (by decide +kernel) (vo_cons (toO (ve_var (v2 _))) (vo_cons (toO (ve_bin op_addD r_add (toO (ve_var (v1 _))) (toO ve_int))) (vo_cons (toO (ve_bin op_addD r_add (toO (ve_var (v4 _))) (toO ve_int))) vo_nil)))))
    (vss_cons (vs_set nd rfl (.inl rfl) (ve_var (v0 _)))
    (vss_cons (vs_for PassesOwn.never rfl (vi_range1 (by rfl) B.range (vo_cons (toO (ve_bin op_sub r_sub (toO (ve_var (v6 _))) (toO ve_int))) vo_nil)) (vg_nm nd rfl (.inl rfl))
    (vss_one (vs_set nd rfl (.inl rfl) (ve_bin op_mulD r_mul (toO ve_int) (toO (ve_var (v7 _)))))))
    (vss_one (vs_ret (ve_bin op_mulD r_mul (toO (ve_bin op_mulD r_mul (toO (ve_var (v7 _))) (toO (ve_call c_law_binomial hr0 (by rfl) (va_cons (ve_var (v1 _)) (va_cons (ve_bin op_sub r_sub (toO (ve_var (v6 _))) (toO ve_int)) va_nil)) (alen_cons (alen_cons alen_nil)))))) (toO (ve_call c_law_binomial hr0 (by rfl) (va_cons (ve_bin op_sub r_sub (toO (ve_bin op_addD r_add (toO (ve_var (v4 _))) (toO (ve_var (v6 _))))) (toO ve_int)) (va_cons (ve_bin op_sub r_sub (toO (ve_var (v6 _))) (toO ve_int)) va_nil)) (alen_cons (alen_cons alen_nil)))))))))))))))
theorem d_law_bound {P : Program} {wd : World} {K : PySem.W.Frag} {mg : Str → Option Value} {base : Heap} {cl : Nat → ClsT} (B : Bt mg) (kk : Ks K mg cl) (a_law_bound : At K mg "_law_bound" s_law_bound) (c_law_binomial : Def P wd K mg base cl 1 "_law_binomial" 2 F_law_binomial) : Def P wd K mg base cl 2 "_law_bound" 3 F_law_bound :=
  def_of a_law_bound sc_law_bound (fun _ _ F => F.binds (ps := ["n", "h", "k"]) fun _ _ _ _ _ _ us hl => match us, hl with | [_, _, _], _ => rfl) fun f cdv A outer s H E G0 H0 sf hr => b_law_bound (k := 1) B kk (c_law_binomial.mono (by decide)) hr
abbrev s_law_right : Stmt := top 21
abbrev N_law_right : List Str := ["drawn", "size", "bound", "n", "h", "told", "most"]
theorem sc_law_right : FnScope N_law_right ["drawn", "size", "bound"] (defScope s_law_right) := ⟨rfl, rfl, rfl, by decide +kernel, rfl, by decide +kernel, by decide +kernel⟩
def m_law_right : Sf :=
    (sSeq (sSet 3 (eBin oIx (eVar 0) (eC (.int 0))))
    (sSeq (sSet 4 (eBin oIx (eVar 0) (eC (.int 1))))
    (sSeq (sIf (tAndF (tB1 (eBin oIsN (eBin oIx (eVar 0) (eC (.int 2))) (eC .non))) (tB1 (eBin oIx (eVar 0) (eC (.int 3)))))
    (sSeq (sSet 5 (eCallD F_universal_size D.non (aCons (eVar 3) (aCons (eVar 4) aNil))))
    (sSet 6 (eCallD F_size_bound D.non (aCons (eVar 3) (aCons (eVar 4) aNil)))))
    (sSeq (sSet 5 (eCallK F_universal_size (aCons (eVar 3) (aCons (eVar 4) aNil)) (eBin oIx (eVar 0) (eC (.int 2)))))
    (sSet 6 (eCallK F_size_bound (aCons (eVar 3) (aCons (eVar 4) aNil)) (eBin oIx (eVar 0) (eC (.int 2)))))))
    (sSeq (sIf (tOrF (tNotF (tB1 (eCall wholeF (aCons (eVar 5) aNil)))) (tNotF (tB1 (eCall wholeF (aCons (eVar 6) aNil)))))
    (sRet (eC (.bl false)))
    sNext)
    (sRet (eAnd (eBin oEq (eVar 5) (eVar 1)) (eAnd (eBin oEq (eVar 6) (eVar 2)) (eBin oLe (eVar 5) (eVar 6)))))))))
def F_law_right : List D → Ret := runF 7 m_law_right
theorem b_law_right {P : Program} {wd : World} {K : PySem.W.Frag} {mg : Str → Option Value} {base : Heap} {cl : Nat → ClsT} {k : Nat} (B : Bt mg) (kk : Ks K mg cl) (c_universal_size : DefK P wd K mg base cl k "universal_size" 2 "branching" D.non F_universal_size) (c_size_bound : DefK P wd K mg base cl k "size_bound" 2 "branching" D.non F_size_bound) (c_law_whole : Def P wd K mg base cl k "_law_whole" 1 wholeF)
    {f : Addr} {cdv : Value} {A : Around} {outer : List PySem.Env} {s : Shared} {H : Hp} {E : XK} {G0 H0 : Hp} {sf : Nat → Addr} (hr : Fw.Room k (A.deeper (envOfC "_law_right" (defScope s_law_right) s.heap.objs.size f cdv))) :
    VSs ⟨cl, G0, H0, sf, wNone, 0⟩ (XX P wd K mg base N_law_right "_law_right" (defScope s_law_right) f cdv A outer s H E) (defBody s_law_right) (m_law_right) := by
  have hr0 := hr
  have hgd : (XX P wd K mg base N_law_right "_law_right" (defScope s_law_right) f cdv A outer s H E).A.guards = some [] := hr.gd
  have hu : (XX P wd K mg base N_law_right "_law_right" (defScope s_law_right) f cdv A outer s H E).A.units + 64 < cLine := hr.units
  have nd : (XX P wd K mg base N_law_right "_law_right" (defScope s_law_right) f cdv A outer s H E).N.Nodup := sc_law_right.nd
  have v0 : ∀ pos, PE (XX P wd K mg base N_law_right "_law_right" (defScope s_law_right) f cdv A outer s H E) (.Name "drawn" pos) (tVar 0) := fun _ => pv 0
  have v1 : ∀ pos, PE (XX P wd K mg base N_law_right "_law_right" (defScope s_law_right) f cdv A outer s H E) (.Name "size" pos) (tVar 1) := fun _ => pv 1
  have v2 : ∀ pos, PE (XX P wd K mg base N_law_right "_law_right" (defScope s_law_right) f cdv A outer s H E) (.Name "bound" pos) (tVar 2) := fun _ => pv 2
  have v3 : ∀ pos, PE (XX P wd K mg base N_law_right "_law_right" (defScope s_law_right) f cdv A outer s H E) (.Name "n" pos) (tVar 3) := fun _ => pv 3
  have v4 : ∀ pos, PE (XX P wd K mg base N_law_right "_law_right" (defScope s_law_right) f cdv A outer s H E) (.Name "h" pos) (tVar 4) := fun _ => pv 4
  have v5 : ∀ pos, PE (XX P wd K mg base N_law_right "_law_right" (defScope s_law_right) f cdv A outer s H E) (.Name "told" pos) (tVar 5) := fun _ => pv 5
  have v6 : ∀ pos, PE (XX P wd K mg base N_law_right "_law_right" (defScope s_law_right) f cdv A outer s H E) (.Name "most" pos) (tVar 6) := fun _ => pv 6
  exact (vss_cons (vs_set nd rfl (.inl rfl) (ve_ix (toO (ve_var (v0 _))) (toO ve_int) (fun _ _ => rfl)))
    (vss_cons (vs_set nd rfl (.inl rfl) (ve_ix (toO (ve_var (v0 _))) (toO ve_int) (fun _ _ => rfl)))
    (vss_cons (vs_if (vt_w (vw_and (vt_cmp op_isN r_isN (toO (ve_ix (toO (ve_var (v0 _))) (toO ve_int) (fun _ _ => rfl))) (toO ve_non) (nomark _)) (vw_and1 (vt_val (ve_ix (toO (ve_var (v0 _))) (toO ve_int) (fun _ _ => rfl))))))
    (vss_cons (vs_set nd rfl (.inl rfl) (ve_callKd c_universal_size hr0 (by rfl) (va_cons (ve_var (v3 _)) (va_cons (ve_var (v4 _)) va_nil)) (alen_cons (alen_cons alen_nil))))
    (vss_one (vs_set nd rfl (.inl rfl) (ve_callKd c_size_bound hr0 (by rfl) (va_cons (ve_var (v3 _)) (va_cons (ve_var (v4 _)) va_nil)) (alen_cons (alen_cons alen_nil))))))
    (vss_cons (vs_set nd rfl (.inl rfl) (ve_callK c_universal_size hr0 (by rfl) (va_cons (ve_var (v3 _)) (va_cons (ve_var (v4 _)) va_nil)) (alen_cons (alen_cons alen_nil)) (ve_ix (toO (ve_var (v0 _))) (toO ve_int) (fun _ _ => rfl))))
    (vss_one (vs_set nd rfl (.inl rfl) (ve_callK c_size_bound hr0 (by rfl) (va_cons (ve_var (v3 _)) (va_cons (ve_var (v4 _)) va_nil)) (alen_cons (alen_cons alen_nil)) (ve_ix (toO (ve_var (v0 _))) (toO ve_int) (fun _ _ => rfl)))))))
    (vss_cons (vs_if (vt_w (vw_or (vt_not (vt_val (ve_call c_law_whole hr0 (by rfl) (va_cons (ve_var (v5 _)) va_nil) (alen_cons alen_nil)))) (vw_or1 (vt_not (vt_val (ve_call c_law_whole hr0 (by rfl) (va_cons (ve_var (v6 _)) va_nil) (alen_cons alen_nil)))))))
    (vss_one (vs_ret ve_bl))
    vss_nil)
    (vss_one (vs_ret (ve_and (ve_cmp (op_eqB hu) r_eq (toO (ve_var (v5 _))) (toO (ve_var (v1 _))) (nomark _)) (ve_and (ve_cmp (op_eqB hu) r_eq (toO (ve_var (v6 _))) (toO (ve_var (v2 _))) (nomark _)) (ve_one (ve_cmp op_le r_cmp (toO (ve_var (v5 _))) (toO (ve_var (v6 _))) (nomark _)))))))))))
theorem d_law_right {P : Program} {wd : World} {K : PySem.W.Frag} {mg : Str → Option Value} {base : Heap} {cl : Nat → ClsT} (B : Bt mg) (kk : Ks K mg cl) (a_law_right : At K mg "_law_right" s_law_right) (c_universal_size : DefK P wd K mg base cl 48 "universal_size" 2 "branching" D.non F_universal_size) (c_size_bound : DefK P wd K mg base cl 1 "size_bound" 2 "branching" D.non F_size_bound) (c_law_whole : Def P wd K mg base cl 1 "_law_whole" 1 wholeF) : Def P wd K mg base cl 49 "_law_right" 3 F_law_right :=
  def_of a_law_right sc_law_right (fun _ _ F => F.binds (ps := ["drawn", "size", "bound"]) fun _ _ _ _ _ _ us hl => match us, hl with | [_, _, _], _ => rfl) fun f cdv A outer s H E G0 H0 sf hr => b_law_right (k := 48) B kk (c_universal_size.mono (by decide)) (c_size_bound.mono (by decide)) (c_law_whole.mono (by decide)) hr
abbrev s_law : Stmt := top 22
abbrev N_law : List Str := ["script", "one", "two", "table", "one_size", "two_size", "one_bound", "two_bound", "three", "three_size"]
theorem sc_law : FnScope N_law ["script"] (defScope s_law) := ⟨rfl, rfl, rfl, by decide +kernel, rfl, by decide +kernel, by decide +kernel⟩
def m_law : Sf :=
    (sSeq (sSet 1 (eCall F_law_parameters (aCons (eVar 0) (aCons (eC (.int 0)) aNil))))
    (sSeq (sSet 2 (eCall F_law_parameters (aCons (eVar 0) (aCons (eC (.int 1)) aNil))))
    (sMemoN 3 (nsf3 (eBin oIx (eVar 1) (eC (.int 0))) (eBin oIx (eVar 2) (eC (.int 0))) (eBin oIx (eCall F_law_utmost (aCons (eVar 0) (aCons (eC (.int 3)) aNil))) (eC (.int 0)))) fun Ns => (sSeq (sSet 4 (eSzN Ns 3 (eBin oIx (eVar 1) (eC (.int 0))) (eBin oIx (eVar 1) (eC (.int 1))) (eBin oIx (eVar 1) (eC (.int 2)))))
    (sSeq (sSet 5 (eSzN Ns 3 (eBin oIx (eVar 2) (eC (.int 0))) (eBin oIx (eVar 2) (eC (.int 1))) (eBin oIx (eVar 2) (eC (.int 2)))))
    (sSeq (sSet 6 (eCall F_law_bound (aCons (eBin oIx (eVar 1) (eC (.int 0))) (aCons (eBin oIx (eVar 1) (eC (.int 1))) (aCons (eBin oIx (eVar 1) (eC (.int 2))) aNil)))))
    (sSeq (sSet 7 (eCall F_law_bound (aCons (eBin oIx (eVar 2) (eC (.int 0))) (aCons (eBin oIx (eVar 2) (eC (.int 1))) (aCons (eBin oIx (eVar 2) (eC (.int 2))) aNil)))))
    (sSeq (sIf (tOrF (tNotF (tB1 (eCall F_law_right (aCons (eVar 1) (aCons (eVar 4) (aCons (eVar 6) aNil)))))) (tNotF (tB1 (eCall F_law_right (aCons (eVar 2) (aCons (eVar 5) (aCons (eVar 7) aNil)))))))
    (sRet (eC (.bl false)))
    sNext)
    (sSeq (sIf (tB1 (eBin oEq (eBin oMod (eArgs oToInt (aCons (eCall cellF (aCons (eVar 0) (aCons (eC (.int 2)) aNil))) aNil)) (eC (.int 24))) (eC (.int 0))))
    (sSeq (sSet 8 (eCall F_law_utmost (aCons (eVar 0) (aCons (eC (.int 3)) aNil))))
    (sSeq (sSet 9 (eSzN Ns 3 (eBin oIx (eVar 8) (eC (.int 0))) (eBin oIx (eVar 8) (eC (.int 1))) (eBin oIx (eVar 8) (eC (.int 2)))))
    (sIf (tNotF (tB1 (eCall F_law_right (aCons (eVar 8) (aCons (eVar 9) (aCons (eCall F_law_bound (aCons (eBin oIx (eVar 8) (eC (.int 0))) (aCons (eBin oIx (eVar 8) (eC (.int 1))) (aCons (eBin oIx (eVar 8) (eC (.int 2))) aNil)))) aNil))))))
    (sRet (eC (.bl false)))
    sNext)))
    sNext)
    (sRet (eCall F_law_right (aCons (eVar 1) (aCons (eVar 4) (aCons (eVar 6) aNil))))))))))))))
def F_law : List D → Ret := runF 10 m_law
theorem b_law {P : Program} {wd : World} {K : PySem.W.Frag} {mg : Str → Option Value} {base : Heap} {cl : Nat → ClsT} {k : Nat} (B : Bt mg) (kk : Ks K mg cl) (c_law_size : DefZ P wd K mg base k "_law_size") (c_law_bound : Def P wd K mg base cl k "_law_bound" 3 F_law_bound) (c_law_right : Def P wd K mg base cl k "_law_right" 3 F_law_right) (c_law_cell : Def P wd K mg base cl k "_law_cell" 2 cellF) (c_law_utmost : Def P wd K mg base cl k "_law_utmost" 2 F_law_utmost) (c_law_parameters : Def P wd K mg base cl k "_law_parameters" 2 F_law_parameters)
    {f : Addr} {cdv : Value} {A : Around} {outer : List PySem.Env} {s : Shared} {H : Hp} {E : XK} {G0 H0 : Hp} {sf : Nat → Addr} (hr : Fw.Room k (A.deeper (envOfC "law" (defScope s_law) s.heap.objs.size f cdv))) :
    VSs ⟨cl, G0, H0, sf, wNone, 0⟩ (XX P wd K mg base N_law "law" (defScope s_law) f cdv A outer s H E) (defBody s_law) (m_law) := by
  have hr0 := hr
  have hgd : (XX P wd K mg base N_law "law" (defScope s_law) f cdv A outer s H E).A.guards = some [] := hr.gd
  have hu : (XX P wd K mg base N_law "law" (defScope s_law) f cdv A outer s H E).A.units + 64 < cLine := hr.units
  have nd : (XX P wd K mg base N_law "law" (defScope s_law) f cdv A outer s H E).N.Nodup := sc_law.nd
  have v0 : ∀ pos, PE (XX P wd K mg base N_law "law" (defScope s_law) f cdv A outer s H E) (.Name "script" pos) (tVar 0) := fun _ => pv 0
  have v1 : ∀ pos, PE (XX P wd K mg base N_law "law" (defScope s_law) f cdv A outer s H E) (.Name "one" pos) (tVar 1) := fun _ => pv 1
  have v2 : ∀ pos, PE (XX P wd K mg base N_law "law" (defScope s_law) f cdv A outer s H E) (.Name "two" pos) (tVar 2) := fun _ => pv 2
  have v3 : ∀ pos, PE (XX P wd K mg base N_law "law" (defScope s_law) f cdv A outer s H E) (.Name "table" pos) (tVar 3) := fun _ => pv 3
  have v4 : ∀ pos, PE (XX P wd K mg base N_law "law" (defScope s_law) f cdv A outer s H E) (.Name "one_size" pos) (tVar 4) := fun _ => pv 4
  have v5 : ∀ pos, PE (XX P wd K mg base N_law "law" (defScope s_law) f cdv A outer s H E) (.Name "two_size" pos) (tVar 5) := fun _ => pv 5
  have v6 : ∀ pos, PE (XX P wd K mg base N_law "law" (defScope s_law) f cdv A outer s H E) (.Name "one_bound" pos) (tVar 6) := fun _ => pv 6
  have v7 : ∀ pos, PE (XX P wd K mg base N_law "law" (defScope s_law) f cdv A outer s H E) (.Name "two_bound" pos) (tVar 7) := fun _ => pv 7
  have v8 : ∀ pos, PE (XX P wd K mg base N_law "law" (defScope s_law) f cdv A outer s H E) (.Name "three" pos) (tVar 8) := fun _ => pv 8
  have v9 : ∀ pos, PE (XX P wd K mg base N_law "law" (defScope s_law) f cdv A outer s H E) (.Name "three_size" pos) (tVar 9) := fun _ => pv 9
  exact (vss_cons (vs_set nd rfl (.inl rfl) (ve_call c_law_parameters hr0 (by rfl) (va_cons (ve_var (v0 _)) (va_cons ve_int va_nil)) (alen_cons (alen_cons alen_nil))))
    (vss_cons (vs_set nd rfl (.inl rfl) (ve_call c_law_parameters hr0 (by rfl) (va_cons (ve_var (v0 _)) (va_cons ve_int va_nil)) (alen_cons (alen_cons alen_nil))))
    (vss_memoN nd rfl (.inl rfl) (fun Ns hNs => (vmm_cons (vm_set nd rfl (.inl rfl) (pem_memoN hNs c_law_size hr0 (by rfl) (pem_lift (all_cl fun _ _ _ _ _ => (ve_ix (toO (ve_var (v1 _))) (toO ve_int) (fun _ _ => rfl)))) (pem_lift (all_cl fun _ _ _ _ _ => (ve_ix (toO (ve_var (v1 _))) (toO ve_int) (fun _ _ => rfl)))) (pem_lift (all_cl fun _ _ _ _ _ => (ve_ix (toO (ve_var (v1 _))) (toO ve_int) (fun _ _ => rfl)))) (v3 _)))
    (vmm_cons (vm_set nd rfl (.inl rfl) (pem_memoN hNs c_law_size hr0 (by rfl) (pem_lift (all_cl fun _ _ _ _ _ => (ve_ix (toO (ve_var (v2 _))) (toO ve_int) (fun _ _ => rfl)))) (pem_lift (all_cl fun _ _ _ _ _ => (ve_ix (toO (ve_var (v2 _))) (toO ve_int) (fun _ _ => rfl)))) (pem_lift (all_cl fun _ _ _ _ _ => (ve_ix (toO (ve_var (v2 _))) (toO ve_int) (fun _ _ => rfl)))) (v3 _)))
    (vmm_cons (vm_lift (all_cl fun _ _ _ _ _ => (vs_set nd rfl (.inl rfl) (ve_call c_law_bound hr0 (by rfl) (va_cons (ve_ix (toO (ve_var (v1 _))) (toO ve_int) (fun _ _ => rfl)) (va_cons (ve_ix (toO (ve_var (v1 _))) (toO ve_int) (fun _ _ => rfl)) (va_cons (ve_ix (toO (ve_var (v1 _))) (toO ve_int) (fun _ _ => rfl)) va_nil))) (alen_cons (alen_cons (alen_cons alen_nil)))))))
    (vmm_cons (vm_lift (all_cl fun _ _ _ _ _ => (vs_set nd rfl (.inl rfl) (ve_call c_law_bound hr0 (by rfl) (va_cons (ve_ix (toO (ve_var (v2 _))) (toO ve_int) (fun _ _ => rfl)) (va_cons (ve_ix (toO (ve_var (v2 _))) (toO ve_int) (fun _ _ => rfl)) (va_cons (ve_ix (toO (ve_var (v2 _))) (toO ve_int) (fun _ _ => rfl)) va_nil))) (alen_cons (alen_cons (alen_cons alen_nil)))))))
    (vmm_cons (vm_lift (all_cl fun _ _ _ _ _ => (vs_if (vt_w (vw_or (vt_not (vt_val (ve_call c_law_right hr0 (by rfl) (va_cons (ve_var (v1 _)) (va_cons (ve_var (v4 _)) (va_cons (ve_var (v6 _)) va_nil))) (alen_cons (alen_cons (alen_cons alen_nil)))))) (vw_or1 (vt_not (vt_val (ve_call c_law_right hr0 (by rfl) (va_cons (ve_var (v2 _)) (va_cons (ve_var (v5 _)) (va_cons (ve_var (v7 _)) va_nil))) (alen_cons (alen_cons (alen_cons alen_nil)))))))))
    (vss_one (vs_ret ve_bl))
    vss_nil)))
    (vmm_cons (vm_if (ptm_lift (all_cl fun _ _ _ _ _ => (vt_cmp (op_eqB hu) r_eq (toO (ve_bin op_mod r_mod (toO (ve_callTy call_int1 r_toInt (by rfl) B.int (by decide +kernel) (vo_cons (toO (ve_call c_law_cell hr0 (by rfl) (va_cons (ve_var (v0 _)) (va_cons ve_int va_nil)) (alen_cons (alen_cons alen_nil)))) vo_nil))) (toO ve_int))) (toO ve_int) (nomark _))))
    (vmm_cons (vm_lift (all_cl fun _ _ _ _ _ => (vs_set nd rfl (.inl rfl) (ve_call c_law_utmost hr0 (by rfl) (va_cons (ve_var (v0 _)) (va_cons ve_int va_nil)) (alen_cons (alen_cons alen_nil))))))
    (vmm_cons (vm_set nd rfl (.inl rfl) (pem_memoN hNs c_law_size hr0 (by rfl) (pem_lift (all_cl fun _ _ _ _ _ => (ve_ix (toO (ve_var (v8 _))) (toO ve_int) (fun _ _ => rfl)))) (pem_lift (all_cl fun _ _ _ _ _ => (ve_ix (toO (ve_var (v8 _))) (toO ve_int) (fun _ _ => rfl)))) (pem_lift (all_cl fun _ _ _ _ _ => (ve_ix (toO (ve_var (v8 _))) (toO ve_int) (fun _ _ => rfl)))) (v3 _)))
    (vmm_one (vm_lift (all_cl fun _ _ _ _ _ => (vs_if (vt_not (vt_val (ve_call c_law_right hr0 (by rfl) (va_cons (ve_var (v8 _)) (va_cons (ve_var (v9 _)) (va_cons (ve_call c_law_bound hr0 (by rfl) (va_cons (ve_ix (toO (ve_var (v8 _))) (toO ve_int) (fun _ _ => rfl)) (va_cons (ve_ix (toO (ve_var (v8 _))) (toO ve_int) (fun _ _ => rfl)) (va_cons (ve_ix (toO (ve_var (v8 _))) (toO ve_int) (fun _ _ => rfl)) va_nil))) (alen_cons (alen_cons (alen_cons alen_nil)))) va_nil))) (alen_cons (alen_cons (alen_cons alen_nil))))))
    (vss_one (vs_ret ve_bl))
    vss_nil))))))
    vmm_nil)
    (vmm_one (vm_lift (all_cl fun _ _ _ _ _ => (vs_ret (ve_call c_law_right hr0 (by rfl) (va_cons (ve_var (v1 _)) (va_cons (ve_var (v4 _)) (va_cons (ve_var (v6 _)) va_nil))) (alen_cons (alen_cons (alen_cons alen_nil))))))))))))))))))
theorem ok_law {P : Program} {wd : World} {K : PySem.W.Frag} {mg : Str → Option Value} {base : Heap} {cl : Nat → ClsT} (B : Bt mg) (kk : Ks K mg cl) (c_law_size : DefZ P wd K mg base 47 "_law_size") (c_law_bound : Def P wd K mg base cl 2 "_law_bound" 3 F_law_bound) (c_law_right : Def P wd K mg base cl 49 "_law_right" 3 F_law_right) (c_law_cell : Def P wd K mg base cl 1 "_law_cell" 2 cellF) (c_law_utmost : Def P wd K mg base cl 2 "_law_utmost" 2 F_law_utmost) (c_law_parameters : Def P wd K mg base cl 2 "_law_parameters" 2 F_law_parameters) {fl : Addr} {fd : FuncData} (Fn : Fun K "law" "law" s_law fl fd) : Fw.FnOk P wd K mg base CX0 50 fl fd ["script"] (spF K cl 1 F_law) :=
  fn_ok Fn sc_law fun cdv A outer s H E G0 H0 sf hr => b_law (k := 49) B kk (c_law_size.mono (by decide)) (c_law_bound.mono (by decide)) (c_law_right.mono (by decide)) (c_law_cell.mono (by decide)) (c_law_utmost.mono (by decide)) (c_law_parameters.mono (by decide)) hr
def clsOf (cs : List ClsT) (i : Nat) : ClsT := cs.getD i ⟨0, []⟩
theorem all_mk {l : PySem.W.OpenLaw} {w : World} {K : PySem.W.Frag} {h : Heap} {mg : Str → Option Value} {fa f1 f2 f3 f4 f5 f6 D6 f7 D7 f8 f9 f10 f11 f12 f13 f14 f15 f16 f17 f18 f19 : Addr} (X : K.In h) (G : h.Ns mainGlobals mg) (hfa : mg "law" = some (.ref fa))
    {od1 an1 od2 an2 od3 an3 od4 an4 od5 an5 od6 an6 od7 an7 od8 an8 od9 an9 od10 an10 od11 an11 od12 an12 od13 an13 od14 an14 od15 an15 od16 an16 od17 an17 od18 an18 od19 an19 : Option Addr} {sl1 sl2 sl3 sl4 sl5 sl6 sl7 sl8 sl9 sl10 sl11 sl12 sl13 sl14 sl15 sl16 sl17 sl18 sl19 : Array (Option Value)} {oc1 kV1 dc1 pm1 cd1 ct1 oc2 kV2 dc2 pm2 cd2 ct2 oc3 kV3 dc3 pm3 cd3 ct3 oc4 kV4 dc4 pm4 cd4 ct4 oc5 kV5 dc5 pm5 cd5 ct5 oc6 dc6 pm6 cd6 ct6 oc7 dc7 pm7 cd7 ct7 oc8 kV8 dc8 pm8 cd8 ct8 oc9 kV9 dc9 pm9 cd9 ct9 oc10 kV10 dc10 pm10 cd10 ct10 oc11 kV11 dc11 pm11 cd11 ct11 oc12 kV12 dc12 pm12 cd12 ct12 oc13 kV13 dc13 pm13 cd13 ct13 oc14 kV14 dc14 pm14 cd14 ct14 oc15 kV15 dc15 pm15 cd15 ct15 oc16 kV16 dc16 pm16 cd16 ct16 oc17 kV17 dc17 pm17 cd17 ct17 oc18 kV18 dc18 pm18 cd18 ct18 oc19 kV19 dc19 pm19 cd19 ct19 : Value} 
    (g_comb : PySem.W.nsIn K mainGlobals "comb" = some (some (.builtin "math.comb")))
    (a1 : PySem.W.nsIn K mainGlobals "first_half" = some (some (.ref f1)))
    (l1 : K.lookup f1 = some ⟨oc1, od1, .func (PySem.W.fnOf "first_half" "first_half" (defArgs s_first_half) (defBody s_first_half) (defScope s_first_half) .none kV1 dc1 pm1 an1 cd1 ct1), sl1⟩)
    (c1 : PySem.W.codeIn K cd1 "first_half" = true)
    (k1 : PySem.W.keepIn K (.ref f1) = true)
    (a2 : PySem.W.nsIn K mainGlobals "last_half" = some (some (.ref f2)))
    (l2 : K.lookup f2 = some ⟨oc2, od2, .func (PySem.W.fnOf "last_half" "last_half" (defArgs s_last_half) (defBody s_last_half) (defScope s_last_half) .none kV2 dc2 pm2 an2 cd2 ct2), sl2⟩)
    (c2 : PySem.W.codeIn K cd2 "last_half" = true)
    (k2 : PySem.W.keepIn K (.ref f2) = true)
    (a3 : PySem.W.nsIn K mainGlobals "is_free" = some (some (.ref f3)))
    (l3 : K.lookup f3 = some ⟨oc3, od3, .func (PySem.W.fnOf "is_free" "is_free" (defArgs s_is_free) (defBody s_is_free) (defScope s_is_free) .none kV3 dc3 pm3 an3 cd3 ct3), sl3⟩)
    (c3 : PySem.W.codeIn K cd3 "is_free" = true)
    (k3 : PySem.W.keepIn K (.ref f3) = true)
    (a4 : PySem.W.nsIn K mainGlobals "tree_size" = some (some (.ref f4)))
    (l4 : K.lookup f4 = some ⟨oc4, od4, .func (PySem.W.fnOf "tree_size" "tree_size" (defArgs s_tree_size) (defBody s_tree_size) (defScope s_tree_size) .none kV4 dc4 pm4 an4 cd4 ct4), sl4⟩)
    (c4 : PySem.W.codeIn K cd4 "tree_size" = true)
    (k4 : PySem.W.keepIn K (.ref f4) = true)
    (a5 : PySem.W.nsIn K mainGlobals "row_size" = some (some (.ref f5)))
    (l5 : K.lookup f5 = some ⟨oc5, od5, .func (PySem.W.fnOf "row_size" "row_size" (defArgs s_row_size) (defBody s_row_size) (defScope s_row_size) .none kV5 dc5 pm5 an5 cd5 ct5), sl5⟩)
    (c5 : PySem.W.codeIn K cd5 "row_size" = true)
    (k5 : PySem.W.keepIn K (.ref f5) = true)
    (a6 : PySem.W.nsIn K mainGlobals "universal_size" = some (some (.ref f6)))
    (l6 : K.lookup f6 = some ⟨oc6, od6, .func (PySem.W.fnOf "universal_size" "universal_size" (defArgs s_universal_size) (defBody s_universal_size) (defScope s_universal_size) .none (.ref D6) dc6 pm6 an6 cd6 ct6), sl6⟩)
    (w6 : PySem.W.nsIn K D6 "branching" = some (some .none))
    (c6 : PySem.W.codeIn K cd6 "universal_size" = true)
    (k6 : PySem.W.keepIn K (.ref f6) = true)
    (a7 : PySem.W.nsIn K mainGlobals "size_bound" = some (some (.ref f7)))
    (l7 : K.lookup f7 = some ⟨oc7, od7, .func (PySem.W.fnOf "size_bound" "size_bound" (defArgs s_size_bound) (defBody s_size_bound) (defScope s_size_bound) .none (.ref D7) dc7 pm7 an7 cd7 ct7), sl7⟩)
    (w7 : PySem.W.nsIn K D7 "branching" = some (some .none))
    (c7 : PySem.W.codeIn K cd7 "size_bound" = true)
    (k7 : PySem.W.keepIn K (.ref f7) = true)
    (a8 : PySem.W.nsIn K mainGlobals "_law_whole" = some (some (.ref f8)))
    (l8 : K.lookup f8 = some ⟨oc8, od8, .func (PySem.W.fnOf "_law_whole" "_law_whole" (defArgs s_law_whole) (defBody s_law_whole) (defScope s_law_whole) .none kV8 dc8 pm8 an8 cd8 ct8), sl8⟩)
    (c8 : PySem.W.codeIn K cd8 "_law_whole" = true)
    (k8 : PySem.W.keepIn K (.ref f8) = true)
    (a9 : PySem.W.nsIn K mainGlobals "_law_cell" = some (some (.ref f9)))
    (l9 : K.lookup f9 = some ⟨oc9, od9, .func (PySem.W.fnOf "_law_cell" "_law_cell" (defArgs s_law_cell) (defBody s_law_cell) (defScope s_law_cell) .none kV9 dc9 pm9 an9 cd9 ct9), sl9⟩)
    (c9 : PySem.W.codeIn K cd9 "_law_cell" = true)
    (k9 : PySem.W.keepIn K (.ref f9) = true)
    (a10 : PySem.W.nsIn K mainGlobals "_law_digits" = some (some (.ref f10)))
    (l10 : K.lookup f10 = some ⟨oc10, od10, .func (PySem.W.fnOf "_law_digits" "_law_digits" (defArgs s_law_digits) (defBody s_law_digits) (defScope s_law_digits) .none kV10 dc10 pm10 an10 cd10 ct10), sl10⟩)
    (c10 : PySem.W.codeIn K cd10 "_law_digits" = true)
    (k10 : PySem.W.keepIn K (.ref f10) = true)
    (a11 : PySem.W.nsIn K mainGlobals "_law_free" = some (some (.ref f11)))
    (l11 : K.lookup f11 = some ⟨oc11, od11, .func (PySem.W.fnOf "_law_free" "_law_free" (defArgs s_law_free) (defBody s_law_free) (defScope s_law_free) .none kV11 dc11 pm11 an11 cd11 ct11), sl11⟩)
    (c11 : PySem.W.codeIn K cd11 "_law_free" = true)
    (k11 : PySem.W.keepIn K (.ref f11) = true)
    (a12 : PySem.W.nsIn K mainGlobals "_law_size" = some (some (.ref f12)))
    (l12 : K.lookup f12 = some ⟨oc12, od12, .func (PySem.W.fnOf "_law_size" "_law_size" (defArgs s_law_size) (defBody s_law_size) (defScope s_law_size) .none kV12 dc12 pm12 an12 cd12 ct12), sl12⟩)
    (c12 : PySem.W.codeIn K cd12 "_law_size" = true)
    (k12 : PySem.W.keepIn K (.ref f12) = true)
    (a13 : PySem.W.nsIn K mainGlobals "_law_row_size" = some (some (.ref f13)))
    (l13 : K.lookup f13 = some ⟨oc13, od13, .func (PySem.W.fnOf "_law_row_size" "_law_row_size" (defArgs s_law_row_size) (defBody s_law_row_size) (defScope s_law_row_size) .none kV13 dc13 pm13 an13 cd13 ct13), sl13⟩)
    (c13 : PySem.W.codeIn K cd13 "_law_row_size" = true)
    (k13 : PySem.W.keepIn K (.ref f13) = true)
    (a14 : PySem.W.nsIn K mainGlobals "_law_parameters" = some (some (.ref f14)))
    (l14 : K.lookup f14 = some ⟨oc14, od14, .func (PySem.W.fnOf "_law_parameters" "_law_parameters" (defArgs s_law_parameters) (defBody s_law_parameters) (defScope s_law_parameters) .none kV14 dc14 pm14 an14 cd14 ct14), sl14⟩)
    (c14 : PySem.W.codeIn K cd14 "_law_parameters" = true)
    (k14 : PySem.W.keepIn K (.ref f14) = true)
    (a15 : PySem.W.nsIn K mainGlobals "_law_utmost" = some (some (.ref f15)))
    (l15 : K.lookup f15 = some ⟨oc15, od15, .func (PySem.W.fnOf "_law_utmost" "_law_utmost" (defArgs s_law_utmost) (defBody s_law_utmost) (defScope s_law_utmost) .none kV15 dc15 pm15 an15 cd15 ct15), sl15⟩)
    (c15 : PySem.W.codeIn K cd15 "_law_utmost" = true)
    (k15 : PySem.W.keepIn K (.ref f15) = true)
    (a16 : PySem.W.nsIn K mainGlobals "_law_binomial" = some (some (.ref f16)))
    (l16 : K.lookup f16 = some ⟨oc16, od16, .func (PySem.W.fnOf "_law_binomial" "_law_binomial" (defArgs s_law_binomial) (defBody s_law_binomial) (defScope s_law_binomial) .none kV16 dc16 pm16 an16 cd16 ct16), sl16⟩)
    (c16 : PySem.W.codeIn K cd16 "_law_binomial" = true)
    (k16 : PySem.W.keepIn K (.ref f16) = true)
    (a17 : PySem.W.nsIn K mainGlobals "_law_bound" = some (some (.ref f17)))
    (l17 : K.lookup f17 = some ⟨oc17, od17, .func (PySem.W.fnOf "_law_bound" "_law_bound" (defArgs s_law_bound) (defBody s_law_bound) (defScope s_law_bound) .none kV17 dc17 pm17 an17 cd17 ct17), sl17⟩)
    (c17 : PySem.W.codeIn K cd17 "_law_bound" = true)
    (k17 : PySem.W.keepIn K (.ref f17) = true)
    (a18 : PySem.W.nsIn K mainGlobals "_law_right" = some (some (.ref f18)))
    (l18 : K.lookup f18 = some ⟨oc18, od18, .func (PySem.W.fnOf "_law_right" "_law_right" (defArgs s_law_right) (defBody s_law_right) (defScope s_law_right) .none kV18 dc18 pm18 an18 cd18 ct18), sl18⟩)
    (c18 : PySem.W.codeIn K cd18 "_law_right" = true)
    (k18 : PySem.W.keepIn K (.ref f18) = true)
    (a19 : PySem.W.nsIn K mainGlobals "law" = some (some (.ref f19)))
    (l19 : K.lookup f19 = some ⟨oc19, od19, .func (PySem.W.fnOf "law" "law" (defArgs s_law) (defBody s_law) (defScope s_law) .none kV19 dc19 pm19 an19 cd19 ct19), sl19⟩)
    (c19 : PySem.W.codeIn K cd19 "law" = true)
    (k19 : PySem.W.keepIn K (.ref f19) = true)
    (z_len : PySem.W.nsIn K mainGlobals "len" = some none)
    (z_int : PySem.W.nsIn K mainGlobals "int" = some none)
    (z_bool : PySem.W.nsIn K mainGlobals "bool" = some none)
    (z_str : PySem.W.nsIn K mainGlobals "str" = some none)
    (z_range : PySem.W.nsIn K mainGlobals "range" = some none)
    (z_isinstance : PySem.W.nsIn K mainGlobals "isinstance" = some none)
    (z_tuple : PySem.W.nsIn K mainGlobals "tuple" = some none)
    (z_list : PySem.W.nsIn K mainGlobals "list" = some none)
    (z_dict : PySem.W.nsIn K mainGlobals "dict" = some none)
    (z_set : PySem.W.nsIn K mainGlobals "set" = some none)
    (z_max : PySem.W.nsIn K mainGlobals "max" = some none)
    (z_min : PySem.W.nsIn K mainGlobals "min" = some none)
    (z_sum : PySem.W.nsIn K mainGlobals "sum" = some none)
    (z_any : PySem.W.nsIn K mainGlobals "any" = some none)
    (z_all : PySem.W.nsIn K mainGlobals "all" = some none)
    (z_sorted : PySem.W.nsIn K mainGlobals "sorted" = some none)
    (z_enumerate : PySem.W.nsIn K mainGlobals "enumerate" = some none)
    (z_zip : PySem.W.nsIn K mainGlobals "zip" = some none)
    (z_reversed : PySem.W.nsIn K mainGlobals "reversed" = some none)
    (z_repr : PySem.W.nsIn K mainGlobals "repr" = some none)
    : ∃ (cl : Nat → ClsT) (fd : FuncData), (∀ (s : Shared) (v : Value), BindsTo s fd ⟨[v], []⟩ [("script", v)]) ∧ ∀ base : Heap, K.In base → base.Ns mainGlobals mg → Fw.FnOk l.prog w K mg base CX0 50 fa fd ["script"] (spF K cl 1 F_law) := by
  have e := hfa.symm.trans (PySem.W.mg_of X G a19)
  cases e
  have B : Bt mg := ⟨PySem.W.mg_none_of X G z_len, PySem.W.mg_none_of X G z_int, PySem.W.mg_none_of X G z_bool, PySem.W.mg_none_of X G z_str, PySem.W.mg_none_of X G z_range, PySem.W.mg_none_of X G z_isinstance, PySem.W.mg_none_of X G z_tuple, PySem.W.mg_none_of X G z_list, PySem.W.mg_none_of X G z_dict, PySem.W.mg_none_of X G z_set, PySem.W.mg_none_of X G z_max, PySem.W.mg_none_of X G z_min, PySem.W.mg_none_of X G z_sum, PySem.W.mg_none_of X G z_any, PySem.W.mg_none_of X G z_all, PySem.W.mg_none_of X G z_sorted, PySem.W.mg_none_of X G z_enumerate, PySem.W.mg_none_of X G z_zip, PySem.W.mg_none_of X G z_reversed, PySem.W.mg_none_of X G z_repr⟩
  have kk : Ks K mg (clsOf []) := ⟨PySem.W.mg_of X G g_comb⟩
  have F1 := fun_mk (st := s_first_half) l1 c1 k1
  have F2 := fun_mk (st := s_last_half) l2 c2 k2
  have F3 := fun_mk (st := s_is_free) l3 c3 k3
  have F4 := fun_mk (st := s_tree_size) l4 c4 k4
  have F5 := fun_mk (st := s_row_size) l5 c5 k5
  have F8 := fun_mk (st := s_law_whole) l8 c8 k8
  have F9 := fun_mk (st := s_law_cell) l9 c9 k9
  have F10 := fun_mk (st := s_law_digits) l10 c10 k10
  have F11 := fun_mk (st := s_law_free) l11 c11 k11
  have F12 := fun_mk (st := s_law_size) l12 c12 k12
  have F13 := fun_mk (st := s_law_row_size) l13 c13 k13
  have F14 := fun_mk (st := s_law_parameters) l14 c14 k14
  have F15 := fun_mk (st := s_law_utmost) l15 c15 k15
  have F16 := fun_mk (st := s_law_binomial) l16 c16 k16
  have F17 := fun_mk (st := s_law_bound) l17 c17 k17
  have F18 := fun_mk (st := s_law_right) l18 c18 k18
  have F19 := fun_mk (st := s_law) l19 c19 k19
  have a_first_half : At K mg "first_half" s_first_half := ⟨⟨_, _, PySem.W.mg_of X G a1, F1⟩⟩
  have a_last_half : At K mg "last_half" s_last_half := ⟨⟨_, _, PySem.W.mg_of X G a2, F2⟩⟩
  have a_is_free : At K mg "is_free" s_is_free := ⟨⟨_, _, PySem.W.mg_of X G a3, F3⟩⟩
  have a_tree_size : At K mg "tree_size" s_tree_size := ⟨⟨_, _, PySem.W.mg_of X G a4, F4⟩⟩
  have a_row_size : At K mg "row_size" s_row_size := ⟨⟨_, _, PySem.W.mg_of X G a5, F5⟩⟩
  have a_universal_size : AtK K mg "universal_size" s_universal_size "branching" V.non := ⟨⟨_, _, PySem.W.mg_of X G a6, ⟨⟨_, _, _, _, _, _, _, _, _, _, rfl, l6, c6, .inl ⟨rfl, rfl⟩, .inr ⟨_, rfl, fun q hq => by
    rw [List.mem_singleton.mp hq]
    exact ⟨_, w6, rfl⟩⟩⟩, k6⟩⟩⟩
  have a_size_bound : AtK K mg "size_bound" s_size_bound "branching" V.non := ⟨⟨_, _, PySem.W.mg_of X G a7, ⟨⟨_, _, _, _, _, _, _, _, _, _, rfl, l7, c7, .inl ⟨rfl, rfl⟩, .inr ⟨_, rfl, fun q hq => by
    rw [List.mem_singleton.mp hq]
    exact ⟨_, w7, rfl⟩⟩⟩, k7⟩⟩⟩
  have a_law_whole : At K mg "_law_whole" s_law_whole := ⟨⟨_, _, PySem.W.mg_of X G a8, F8⟩⟩
  have a_law_cell : At K mg "_law_cell" s_law_cell := ⟨⟨_, _, PySem.W.mg_of X G a9, F9⟩⟩
  have a_law_digits : At K mg "_law_digits" s_law_digits := ⟨⟨_, _, PySem.W.mg_of X G a10, F10⟩⟩
  have a_law_free : At K mg "_law_free" s_law_free := ⟨⟨_, _, PySem.W.mg_of X G a11, F11⟩⟩
  have a_law_size : At K mg "_law_size" s_law_size := ⟨⟨_, _, PySem.W.mg_of X G a12, F12⟩⟩
  have a_law_row_size : At K mg "_law_row_size" s_law_row_size := ⟨⟨_, _, PySem.W.mg_of X G a13, F13⟩⟩
  have a_law_parameters : At K mg "_law_parameters" s_law_parameters := ⟨⟨_, _, PySem.W.mg_of X G a14, F14⟩⟩
  have a_law_utmost : At K mg "_law_utmost" s_law_utmost := ⟨⟨_, _, PySem.W.mg_of X G a15, F15⟩⟩
  have a_law_binomial : At K mg "_law_binomial" s_law_binomial := ⟨⟨_, _, PySem.W.mg_of X G a16, F16⟩⟩
  have a_law_bound : At K mg "_law_bound" s_law_bound := ⟨⟨_, _, PySem.W.mg_of X G a17, F17⟩⟩
  have a_law_right : At K mg "_law_right" s_law_right := ⟨⟨_, _, PySem.W.mg_of X G a18, F18⟩⟩
  refine ⟨clsOf [], PySem.W.fnOf "law" "law" (defArgs s_law) (defBody s_law) (defScope s_law) .none kV19 dc19 pm19 an19 cd19 ct19, fun s v => .of_eq rfl, fun base _ _ => ?_⟩
  have c_first_half : Def l.prog w K mg base (clsOf []) 1 "first_half" 1 F_first_half := d_first_half B kk a_first_half
  have c_last_half : Def l.prog w K mg base (clsOf []) 1 "last_half" 1 F_last_half := d_last_half B kk a_last_half
  have c_is_free : Def l.prog w K mg base (clsOf []) 1 "is_free" 3 F_is_free := d_is_free B kk a_is_free
  have c_universal_size : DefK l.prog w K mg base (clsOf []) 48 "universal_size" 2 "branching" D.non F_universal_size := d_universal_size B kk a_universal_size a_row_size a_tree_size c_first_half c_last_half c_is_free
  have c_size_bound : DefK l.prog w K mg base (clsOf []) 1 "size_bound" 2 "branching" D.non F_size_bound := d_size_bound B kk a_size_bound
  have c_law_whole : Def l.prog w K mg base (clsOf []) 1 "_law_whole" 1 wholeF := d_law_whole B kk a_law_whole
  have c_law_cell : Def l.prog w K mg base (clsOf []) 1 "_law_cell" 2 cellF := d_law_cell B kk a_law_cell
  have c_law_digits : Def l.prog w K mg base (clsOf []) 1 "_law_digits" 2 digits2F := d_law_digits B kk a_law_digits
  have c_law_free : Def l.prog w K mg base (clsOf []) 1 "_law_free" 3 F_law_free := d_law_free B kk a_law_free
  have c_law_size : DefZ l.prog w K mg base 47 "_law_size" := d_law_size B kk a_law_size a_law_row_size c_law_free
  have c_law_parameters : Def l.prog w K mg base (clsOf []) 2 "_law_parameters" 2 F_law_parameters := d_law_parameters B kk a_law_parameters c_law_digits c_law_cell
  have c_law_utmost : Def l.prog w K mg base (clsOf []) 2 "_law_utmost" 2 F_law_utmost := d_law_utmost B kk a_law_utmost c_law_digits c_law_cell
  have c_law_binomial : Def l.prog w K mg base (clsOf []) 1 "_law_binomial" 2 F_law_binomial := d_law_binomial B kk a_law_binomial
  have c_law_bound : Def l.prog w K mg base (clsOf []) 2 "_law_bound" 3 F_law_bound := d_law_bound B kk a_law_bound c_law_binomial
  have c_law_right : Def l.prog w K mg base (clsOf []) 49 "_law_right" 3 F_law_right := d_law_right B kk a_law_right c_universal_size c_size_bound c_law_whole
  exact ok_law B kk c_law_size c_law_bound c_law_right c_law_cell c_law_utmost c_law_parameters F19
/-- _law_cell|fl,int -> int -/
theorem t_law_cell_FI (a_script : (List Int)) (a_k : Int) (r_ : Int) (h_ : p_law_cell_FI a_script a_k = some r_) : Fw.toD (cellF [encF a_script, D.int a_k]) = some (D.int r_) := by
  have h : SB (RetD D.int) (m_cell) [Cell.sh (encF a_script), Cell.sh (D.int a_k), Cell.no, Cell.no] _ := (sb_top (sb_assoc (sb_if (st_b (sk_lt (sk_var (i := 1) D.int a_k rfl) (sk_lenF (sk_var (i := 0) encF a_script rfl)))) (sb_ret (w := (fun a => a)) (sk_ixF (sk_var (i := 0) encF a_script rfl) (sk_var (i := 1) D.int a_k rfl)) (fun _ => rfl)) (sb_next (sb_assoc (sb_set 2 (sk_let (sk_c D.int 17 rfl)) (fun x2 => (sb_assoc (sb_for (env := (fun (s5 : Int) (j6 : Cell) => ([Cell.sh (encF a_script), Cell.sh (D.int a_k), Cell.sh (D.int s5), j6] : Fw.Env))) (s0 := x2) (j0 := Cell.no) (sf_items (fe := List.map D.int) (sk_var (i := 0) encF a_script rfl)) rfl (fun _ _ _ => rfl) (fun s5 j6 x3 => (sb_top (sb_set 2 (sk_let (sk_modR 1000003 (by decide) (sk_int (sk_add (sk_mulR 31 (by decide) (sk_var (i := 2) D.int s5 rfl)) (sk_modR 1000003 (by decide) (sk_int (sk_var (i := 3) D.int x3 rfl))))))) (fun x7 => (sb_end (w := x7) ⟨(Cell.sh (D.int x3)), .inl rfl⟩))))) (fun s8 j9 => (sb_ret (w := (fun a => a)) (sk_modR 2147483647 (by decide) (sk_int (sk_mulR 69621 (by decide) (sk_mul (sk_add (sk_var (i := 2) D.int s8 rfl) (sk_c D.int 7 rfl)) (sk_add (sk_var (i := 1) D.int a_k rfl) (sk_c D.int 3 rfl)))))) (fun _ => rfl))))))))))))
  exact h r_ h_
/-- _law_digits|int,list(int) -> list(int) -/
theorem t_law_digits_ILI (a_cell : Int) (a_sizes : (List Int)) (r_ : (List Int)) (h_ : p_law_digits_ILI a_cell a_sizes = some r_) : toFr (digits2F [D.int a_cell, (encL D.int) a_sizes]) = some ((fun r => Ow.lst ((List.map D.int) r)) r_) := by
  have h : SB (RetW (fun r => Ow.lst ((List.map D.int) r))) (m_digits2) [Cell.sh (D.int a_cell), Cell.sh ((encL D.int) a_sizes), Cell.no, Cell.no, Cell.no, Cell.no, Cell.no, Cell.no] _ := (sb_top (sb_assoc (sb_setF 2 (sf_let (sf_lst 0 alen_nil (by decide) (sf_nil D.int))) (fun x1 => (sb_assoc (sb_set 3 (sk_let (sk_int (sk_var (i := 0) D.int a_cell rfl))) (fun x2 => (sb_assoc (sb_if (st_b (sk_ge (sk_var (i := 3) D.int x2 rfl) (sk_powC 10 18 1000000000000000000 rfl))) (sb_assoc (sb_set 3 (sk_let (sk_sub (sk_var (i := 3) D.int x2 rfl) (sk_powC 10 18 1000000000000000000 rfl))) (fun x3 => (sb_assoc (sb_for (env := (fun (s9 : ((List Int) × Int)) (j10 : Cell) => ([Cell.sh (D.int a_cell), Cell.sh ((encL D.int) a_sizes), Cell.own (Ow.lst ((List.map D.int) s9.1)), Cell.sh (D.int s9.2), j10, Cell.no, Cell.no, Cell.no] : Fw.Env))) (s0 := (x1, x3)) (j0 := Cell.no) (sf_items (fe := List.map D.int) (sk_var (i := 1) (encL D.int) a_sizes rfl)) rfl (fun _ _ _ => rfl) (fun s9 j10 x4 => (sb_top (sb_assoc (sb_app 2 D.int s9.1 rfl (sk_mod (sk_int (sk_var (i := 3) D.int s9.2 rfl)) (sk_var (i := 4) D.int x4 rfl)) (fun x11 => (sb_set 3 (sk_let (sk_fdiv (sk_int (sk_var (i := 3) D.int s9.2 rfl)) (sk_var (i := 4) D.int x4 rfl))) (fun x12 => (sb_end (w := (x11, x12)) ⟨(Cell.sh (D.int x4)), .inl rfl⟩)))))))) (fun s15 j16 => (sb_retV 2 (w := (fun a => a) s15.1) rfl (fun _ => rfl)))))))) (sb_next (sb_assoc (sb_set 5 (sk_let (sk_modR 2147483629 (by decide) (sk_int (sk_var (i := 3) D.int x2 rfl)))) (fun x17 => (sb_assoc (sb_for (env := (fun (s25 : ((List Int) × Int)) (j26 : (Cell × Cell)) => ([Cell.sh (D.int a_cell), Cell.sh ((encL D.int) a_sizes), Cell.own (Ow.lst ((List.map D.int) s25.1)), Cell.sh (D.int x2), Cell.no, Cell.sh (D.int s25.2), j26.1, j26.2] : Fw.Env))) (s0 := (x1, x17)) (j0 := (Cell.no, Cell.no)) (sf_rng1 (sk_lenL (sk_var (i := 1) (encL D.int) a_sizes rfl))) rfl (fun _ _ _ => rfl) (fun s25 j26 x18 => (sb_top (sb_assoc (sb_set 5 (sk_let (sk_modR 2147483647 (by decide) (sk_int (sk_add (sk_add (sk_mulR 48271 (by decide) (sk_var (i := 5) D.int s25.2 rfl)) (sk_mulL 974711 (by decide) (sk_var (i := 6) D.int x18 rfl))) (sk_c D.int 12345 rfl))))) (fun x27 => (sb_assoc (sb_set 7 (sk_let (sk_modR 2147483629 (by decide) (sk_int (sk_mul (sk_var (i := 5) D.int x27 rfl) (sk_add (sk_fdivR 65537 (by decide) (sk_var (i := 5) D.int x27 rfl)) (sk_c D.int 3 rfl)))))) (fun x28 => (sb_app 2 D.int s25.1 rfl (sk_mod (sk_fdivR 19 (by decide) (sk_var (i := 7) D.int x28 rfl)) (sk_ixL (sk_var (i := 1) (encL D.int) a_sizes rfl) (sk_var (i := 6) D.int x18 rfl))) (fun x29 => (sb_end (w := (x29, x27)) ⟨((Cell.sh (D.int x18)), (Cell.sh (D.int x28))), .inl rfl⟩))))))))))) (fun s33 j34 => (sb_retV 2 (w := (fun a => a) s33.1) rfl (fun _ => rfl))))))))))))))))))
  exact h r_ h_
/-- _law_parameters|fl,int -> lst(int,int,opt(int),bool) -/
theorem t_law_parameters_FI (a_script : (List Int)) (a_at : Int) (r_ : (Int × Int × (Option Int) × Bool)) (h_ : p_law_parameters_FI a_script a_at = some r_) : toFr (F_law_parameters [encF a_script, D.int a_at]) = some ((fun r => Ow.lst ((hC D.int (hC D.int (hC (encO D.int) (h1 D.bl)))) r)) r_) := by
  have h : SB (RetW (fun r => Ow.lst ((hC D.int (hC D.int (hC (encO D.int) (h1 D.bl)))) r))) (m_law_parameters) [Cell.sh (encF a_script), Cell.sh (D.int a_at), Cell.no, Cell.no, Cell.no, Cell.no, Cell.no] _ := (sb_top (sb_assoc (sb_set 2 (sk_let (sk_call (fe := (hC D.int (h1 (encL D.int)))) (ec := (encL D.int)) (fun a => p_law_digits_ILI a.1 a.2) (fun a r h => toFr_toD (t_law_digits_ILI a.1 a.2 r h)) (sh_cons (sk_call (fe := (hC encF (h1 D.int))) (ec := D.int) (fun a => p_law_cell_FI a.1 a.2) (fun a r h => t_law_cell_FI a.1 a.2 r h) (sh_cons (sk_var (i := 0) encF a_script rfl) (sh_one (sk_var (i := 1) D.int a_at rfl)))) (sh_one (sk_re (encL D.int) (sk_fL (sf_lst 9 (alen_cons (alen_cons (alen_cons (alen_cons (alen_cons (alen_cons (alen_cons (alen_cons (alen_cons alen_nil))))))))) (by decide) (sf_cons (sk_c D.int 6 rfl) (sf_cons (sk_c D.int 1000000 rfl) (sf_cons (sk_c D.int 13 rfl) (sf_cons (sk_c D.int 5 rfl) (sf_cons (sk_c D.int 12 rfl) (sf_cons (sk_c D.int 3 rfl) (sf_cons (sk_c D.int 2 rfl) (sf_cons (sk_c D.int 20 rfl) (sf_cons (sk_c D.int 3 rfl) (sf_nil D.int))))))))))))))))) (fun x1 => (sb_assoc (sb_set 3 (sk_let (sk_add (sk_c D.int 1 rfl) (sk_mod (sk_int (sk_ixL (sk_var (i := 2) (encL D.int) x1 rfl) (sk_c D.int 1 rfl))) (sk_ixL (sk_re (encL D.int) (sk_fL (sf_lst 6 (alen_cons (alen_cons (alen_cons (alen_cons (alen_cons (alen_cons alen_nil)))))) (by decide) (sf_cons (sk_c D.int 12 rfl) (sf_cons (sk_c D.int 1000 rfl) (sf_cons (sk_c D.int 1 rfl) (sf_cons (sk_c D.int 1 rfl) (sf_cons (sk_c D.int 1000000 rfl) (sf_cons (sk_c D.int 1000000 rfl) (sf_nil D.int)))))))))) (sk_ixL (sk_var (i := 2) (encL D.int) x1 rfl) (sk_c D.int 0 rfl)))))) (fun x2 => (sb_assoc (sb_ifJ (env := (fun (s27 : Int) (j28 : (Cell × Cell)) => ([Cell.sh (encF a_script), Cell.sh (D.int a_at), Cell.sh ((encL D.int) x1), Cell.sh (D.int s27), j28.1, j28.2, Cell.no] : Fw.Env))) (st_or (st_b (sk_eq eqok_int (sk_ixL (sk_var (i := 2) (encL D.int) x1 rfl) (sk_c D.int 0 rfl)) (sk_c D.int 2 rfl))) (st_b (sk_eq eqok_int (sk_ixL (sk_var (i := 2) (encL D.int) x1 rfl) (sk_c D.int 0 rfl)) (sk_c D.int 3 rfl)))) (sb_top (sb_assoc (sb_set 4 (sk_let (sk_c D.int 1 rfl)) (fun x15 => (sb_assoc (sb_for (env := (fun (s18 : Int) (j19 : Cell) => ([Cell.sh (encF a_script), Cell.sh (D.int a_at), Cell.sh ((encL D.int) x1), Cell.sh (D.int x2), Cell.sh (D.int s18), j19, Cell.no] : Fw.Env))) (s0 := x15) (j0 := Cell.no) (sf_rng1 (sk_ixL (sk_var (i := 2) (encL D.int) x1 rfl) (sk_c D.int 7 rfl))) rfl (fun _ _ _ => rfl) (fun s18 j19 x16 => (sb_top (sb_set 4 (sk_let (sk_mulL 2 (by decide) (sk_var (i := 4) D.int s18 rfl))) (fun x20 => (sb_end (w := x20) ⟨(Cell.sh (D.int x16)), .inl rfl⟩))))) (fun s21 j22 => (sb_set 3 (sk_let (sk_max2 (sk_c D.int 1 rfl) (sk_sub (sk_add (sk_var (i := 4) D.int s21 rfl) (sk_ixL (sk_var (i := 2) (encL D.int) x1 rfl) (sk_c D.int 8 rfl))) (sk_c D.int 1 rfl)))) (fun x23 => (sb_end (w := x23) ⟨((Cell.sh (D.int s21)), j22), rfl⟩)))))))))) (sb_top (sb_next (sb_end (w := x2) ⟨(Cell.no, Cell.no), rfl⟩))) (fun s27 j28 => (sb_assoc (sb_set 6 (sk_let (sk_ixL (sk_re (encL (encO D.int)) (sk_fL (sf_lst 5 (alen_cons (alen_cons (alen_cons (alen_cons (alen_cons alen_nil))))) (by decide) (sf_cons (sk_c (encO D.int) none rfl) (sf_cons (sk_c (encO D.int) none rfl) (sf_cons (sk_some (sk_add (sk_c D.int 2 rfl) (sk_ixL (sk_var (i := 2) (encL D.int) x1 rfl) (sk_c D.int 5 rfl)))) (sf_cons (sk_some (sk_add (sk_c D.int 2 rfl) (sk_ixL (sk_var (i := 2) (encL D.int) x1 rfl) (sk_c D.int 5 rfl)))) (sf_cons (sk_some (sk_add (sk_c D.int 1 rfl) (sk_ixL (sk_var (i := 2) (encL D.int) x1 rfl) (sk_c D.int 4 rfl)))) (sf_nil (encO D.int)))))))))) (sk_ixL (sk_var (i := 2) (encL D.int) x1 rfl) (sk_c D.int 3 rfl)))) (fun x29 => (sb_retF (w := (fun a => a)) (sf_re (hC D.int (hC D.int (hC (encO D.int) (h1 D.bl)))) (sf_lst 4 (alen_cons (alen_cons (alen_cons (alen_cons alen_nil)))) (by decide) (sh_cons (sk_var (i := 3) D.int s27 rfl) (sh_cons (sk_ixL (sk_var (i := 2) (encL D.int) x1 rfl) (sk_c D.int 2 rfl)) (sh_cons (sk_var (i := 6) (encO D.int) x29 rfl) (sh_one (sk_eq eqok_int (sk_ixL (sk_var (i := 2) (encL D.int) x1 rfl) (sk_c D.int 6 rfl)) (sk_c D.int 0 rfl)))))))) (fun _ => rfl)))))))))))))))
  exact h r_ h_
/-- _law_binomial|int,int -> int -/
theorem t_law_binomial_II (a_a : Int) (a_b : Int) (r_ : Int) (h_ : p_law_binomial_II a_a a_b = some r_) : Fw.toD (F_law_binomial [D.int a_a, D.int a_b]) = some (D.int r_) := by
  have h : SB (RetD D.int) (m_law_binomial) [Cell.sh (D.int a_a), Cell.sh (D.int a_b), Cell.no, Cell.no, Cell.no] _ := (sb_top (sb_assoc (sb_set 2 (sk_let (sk_re (encL D.int) (sk_fL (sf_lst 1 (alen_cons alen_nil) (by decide) (sf_cons (sk_c D.int 1 rfl) (sf_nil D.int)))))) (fun x1 => (sb_assoc (sb_for (env := (fun (s12 : (List Int)) (j13 : Cell) => ([Cell.sh (D.int a_a), Cell.sh (D.int a_b), Cell.sh ((encL D.int) s12), j13, Cell.no] : Fw.Env))) (s0 := x1) (j0 := Cell.no) (sf_rng1 (sk_var (i := 0) D.int a_a rfl)) rfl (fun _ _ _ => rfl) (fun s12 j13 x2 => (sb_top (sb_set 2 (sk_let (sk_re (encL D.int) (sk_fL (sf_cat (sk_re (encL D.int) (sk_fL (sf_cat (sk_re (encL D.int) (sk_fL (sf_lst 1 (alen_cons alen_nil) (by decide) (sf_cons (sk_c D.int 1 rfl) (sf_nil D.int))))) (sk_re (encL D.int) (sk_fL (sf_compO (ec := D.int) (sf_rng1 (sk_sub (sk_lenL (sk_var (i := 2) (encL D.int) s12 rfl)) (sk_c D.int 1 rfl))) (fun _ => rfl) (fun y14 _ h => sk_dir (sk_add (sk_ixL (sk_var (i := 2) (encL D.int) s12 rfl) (sk_var (i := 4) D.int y14 rfl)) (sk_ixL (sk_var (i := 2) (encL D.int) s12 rfl) (sk_add (sk_var (i := 4) D.int y14 rfl) (sk_c D.int 1 rfl)))) h))))))) (sk_re (encL D.int) (sk_fL (sf_lst 1 (alen_cons alen_nil) (by decide) (sf_cons (sk_c D.int 1 rfl) (sf_nil D.int))))))))) (fun x15 => (sb_end (w := x15) ⟨(Cell.sh (D.int x2)), .inl rfl⟩))))) (fun s23 j24 => (sb_ret (w := (fun a => a)) (sk_ixL (sk_var (i := 2) (encL D.int) s23 rfl) (sk_var (i := 1) D.int a_b rfl)) (fun _ => rfl)))))))))
  exact h r_ h_
/-- _law_bound|int,int,opt(int) -> int -/
theorem t_law_bound_IIOI (a_n : Int) (a_h : Int) (a_k : (Option Int)) (r_ : Int) (h_ : p_law_bound_IIOI a_n a_h a_k = some r_) : Fw.toD (F_law_bound [D.int a_n, D.int a_h, (encO D.int) a_k]) = some (D.int r_) := by
  have h : SB (RetD D.int) (m_law_bound) [Cell.sh (D.int a_n), Cell.sh (D.int a_h), Cell.sh ((encO D.int) a_k), Cell.no, Cell.no, Cell.no, Cell.no, Cell.no] _ := (sb_top (sb_assoc (sb_if (st_b (sk_eq eqok_int (sk_var (i := 1) D.int a_h rfl) (sk_c D.int 0 rfl))) (sb_ret (w := (fun a => a)) (sk_c D.int 1 rfl) (fun _ => rfl)) (sb_next (sb_assoc (sb_set 3 (sk_let (sk_c D.int 1 rfl)) (fun x1 => (sb_assoc (sb_set 4 (sk_let (sk_c D.int 0 rfl)) (fun x2 => (sb_assoc (sb_forB (env := (fun (s6 : (Int × Int)) (j7 : Cell) => ([Cell.sh (D.int a_n), Cell.sh (D.int a_h), Cell.sh ((encO D.int) a_k), Cell.sh (D.int s6.1), Cell.sh (D.int s6.2), j7, Cell.no, Cell.no] : Fw.Env))) (s0 := (x1, x2)) (j0 := Cell.no) (sf_rng1 (sk_c D.int 64 rfl)) rfl (fun _ _ _ => rfl) (fun s6 j7 x3 => (sb_top (sb_assoc (sb_if (st_b (sk_gt (sk_mulL 2 (by decide) (sk_var (i := 3) D.int s6.1 rfl)) (sk_var (i := 0) D.int a_n rfl))) (sb_brk (w := Brk.stop (s6.1, s6.2)) ⟨(Cell.sh (D.int x3)), rfl⟩) (sb_next (sb_assoc (sb_set 3 (sk_let (sk_mulL 2 (by decide) (sk_var (i := 3) D.int s6.1 rfl))) (fun x8 => (sb_set 4 (sk_let (sk_add (sk_var (i := 4) D.int s6.2 rfl) (sk_c D.int 1 rfl))) (fun x9 => (sb_end (w := Brk.go (x8, x9)) ⟨(Cell.sh (D.int x3)), .inl rfl⟩))))))))))) (fun s10 j11 => (sb_assoc (sb_if (st_b (sk_isN (fun _ => rfl) (sk_var (i := 2) (encO D.int) a_k rfl))) (sb_ret (w := (fun a => a)) (sk_mul (sk_var (i := 0) D.int a_n rfl) (sk_call (fe := (hC D.int (h1 D.int))) (ec := D.int) (fun a => p_law_binomial_II a.1 a.2) (fun a r h => t_law_binomial_II a.1 a.2 r h) (sh_cons (sk_sub (sk_add (sk_var (i := 4) D.int s10.2 rfl) (sk_var (i := 1) D.int a_h rfl)) (sk_c D.int 1 rfl)) (sh_one (sk_sub (sk_var (i := 1) D.int a_h rfl) (sk_c D.int 1 rfl)))))) (fun _ => rfl)) (sb_next (sb_assoc (sb_set 6 (sk_let (sk_min3 (sk_get (sk_var (i := 2) (encO D.int) a_k rfl)) (sk_add (sk_var (i := 1) D.int a_h rfl) (sk_c D.int 1 rfl)) (sk_add (sk_var (i := 4) D.int s10.2 rfl) (sk_c D.int 1 rfl)))) (fun x14 => (sb_assoc (sb_set 7 (sk_let (sk_var (i := 0) D.int a_n rfl)) (fun x15 => (sb_assoc (sb_for (env := (fun (s18 : Int) (j19 : Cell) => ([Cell.sh (D.int a_n), Cell.sh (D.int a_h), Cell.sh ((encO D.int) a_k), Cell.sh (D.int s10.1), Cell.sh (D.int s10.2), j19, Cell.sh (D.int x14), Cell.sh (D.int s18)] : Fw.Env))) (s0 := x15) (j0 := j11) (sf_rng1 (sk_sub (sk_var (i := 6) D.int x14 rfl) (sk_c D.int 1 rfl))) rfl (fun _ _ _ => rfl) (fun s18 j19 x16 => (sb_top (sb_set 7 (sk_let (sk_mulL 2 (by decide) (sk_var (i := 7) D.int s18 rfl))) (fun x20 => (sb_end (w := x20) ⟨(Cell.sh (D.int x16)), .inl rfl⟩))))) (fun s21 j22 => (sb_ret (w := (fun a => a)) (sk_mul (sk_mul (sk_var (i := 7) D.int s21 rfl) (sk_call (fe := (hC D.int (h1 D.int))) (ec := D.int) (fun a => p_law_binomial_II a.1 a.2) (fun a r h => t_law_binomial_II a.1 a.2 r h) (sh_cons (sk_var (i := 1) D.int a_h rfl) (sh_one (sk_sub (sk_var (i := 6) D.int x14 rfl) (sk_c D.int 1 rfl)))))) (sk_call (fe := (hC D.int (h1 D.int))) (ec := D.int) (fun a => p_law_binomial_II a.1 a.2) (fun a r h => t_law_binomial_II a.1 a.2 r h) (sh_cons (sk_sub (sk_add (sk_var (i := 4) D.int s10.2 rfl) (sk_var (i := 6) D.int x14 rfl)) (sk_c D.int 1 rfl)) (sh_one (sk_sub (sk_var (i := 6) D.int x14 rfl) (sk_c D.int 1 rfl)))))) (fun _ => rfl)))))))))))))))))))))))))))
  exact h r_ h_
theorem t_universal_size_IIOI (a_leaves : Int) (a_height : Int) (a_branching : Option Int) (r_ : Int) (h_ : p_universal_size_IIOI a_leaves a_height a_branching = some r_) : Fw.toD (F_universal_size [D.int a_leaves, D.int a_height, encO D.int a_branching]) = some (D.int r_) := uszT_ok h_
/-- size_bound|int,int,opt(int) -> int -/
theorem t_size_bound_IIOI (a_leaves : Int) (a_height : Int) (a_branching : (Option Int)) (r_ : Int) (h_ : p_size_bound_IIOI a_leaves a_height a_branching = some r_) : Fw.toD (F_size_bound [D.int a_leaves, D.int a_height, (encO D.int) a_branching]) = some (D.int r_) := by
  have h : SB (RetD D.int) (m_size_bound) [Cell.sh (D.int a_leaves), Cell.sh (D.int a_height), Cell.sh ((encO D.int) a_branching), Cell.no, Cell.no] _ := (sb_top (sb_assoc (sb_if (st_b (sk_eq eqok_int (sk_var (i := 1) D.int a_height rfl) (sk_c D.int 0 rfl))) (sb_ret (w := (fun a => a)) (sk_c D.int 1 rfl) (fun _ => rfl)) (sb_next (sb_assoc (sb_set 3 (sk_let (sk_sub (sk_bits (sk_var (i := 0) D.int a_leaves rfl)) (sk_c D.int 1 rfl))) (fun x1 => (sb_assoc (sb_if (st_b (sk_isN (fun _ => rfl) (sk_var (i := 2) (encO D.int) a_branching rfl))) (sb_ret (w := (fun a => a)) (sk_mul (sk_var (i := 0) D.int a_leaves rfl) (sk_comb (sk_sub (sk_add (sk_var (i := 3) D.int x1 rfl) (sk_var (i := 1) D.int a_height rfl)) (sk_c D.int 1 rfl)) (sk_sub (sk_var (i := 1) D.int a_height rfl) (sk_c D.int 1 rfl)))) (fun _ => rfl)) (sb_next (sb_assoc (sb_set 4 (sk_let (sk_sub (sk_minL (sk_asP (mapO fun z => z) encL_get (sk_re (encL (encO D.int)) (sk_fL (sf_lst 3 (alen_cons (alen_cons (alen_cons alen_nil))) (by decide) (sf_cons (sk_var (i := 2) (encO D.int) a_branching rfl) (sf_cons (sk_some (sk_add (sk_var (i := 1) D.int a_height rfl) (sk_c D.int 1 rfl))) (sf_cons (sk_some (sk_add (sk_var (i := 3) D.int x1 rfl) (sk_c D.int 1 rfl))) (sf_nil (encO D.int)))))))))) (sk_c D.int 1 rfl))) (fun x4 => (sb_ret (w := (fun a => a)) (sk_mul (sk_mul (sk_shl (sk_var (i := 0) D.int a_leaves rfl) (sk_var (i := 4) D.int x4 rfl)) (sk_comb (sk_var (i := 1) D.int a_height rfl) (sk_var (i := 4) D.int x4 rfl))) (sk_comb (sk_add (sk_var (i := 3) D.int x1 rfl) (sk_var (i := 4) D.int x4 rfl)) (sk_var (i := 4) D.int x4 rfl))) (fun _ => rfl)))))))))))))))
  exact h r_ h_
/-- _law_whole|int -> bool -/
theorem t_law_whole_I (a_value : Int) (r_ : Bool) (h_ : p_law_whole_I a_value = some r_) : Fw.toD (wholeF [D.int a_value]) = some (D.bl r_) := by
  have h : SB (RetD D.bl) (m_whole) [Cell.sh (D.int a_value)] _ := (sb_top (sb_ret (w := (fun a => a)) (sk_andP (sk_isi true (g := (eC (.ty "int"))) (T := (.ty "int")) (by simp) (by intro _; simp [encL, encT, encTu, encLi, encF]) (sk_var (i := 0) D.int a_value rfl)) (sk_not (sk_isi false (g := (eC (.ty "bool"))) (T := (.ty "bool")) (by simp) (by intro _; simp [encL, encT, encTu, encLi, encF]) (sk_var (i := 0) D.int a_value rfl)))) (fun _ => rfl)))
  exact h r_ h_
/-- _law_right|lst(int,int,opt(int),bool),int,int -> bool -/
theorem t_law_right_HIIOIBEII (a_drawn : (Int × Int × (Option Int) × Bool)) (a_size : Int) (a_bound : Int) (r_ : Bool) (h_ : p_law_right_HIIOIBEII a_drawn a_size a_bound = some r_) : Fw.toD (F_law_right [(encLi (hC D.int (hC D.int (hC (encO D.int) (h1 D.bl))))) a_drawn, D.int a_size, D.int a_bound]) = some (D.bl r_) := by
  have h : SB (RetD D.bl) (m_law_right) [Cell.sh ((encLi (hC D.int (hC D.int (hC (encO D.int) (h1 D.bl))))) a_drawn), Cell.sh (D.int a_size), Cell.sh (D.int a_bound), Cell.no, Cell.no, Cell.no, Cell.no] _ := (sb_top (sb_assoc (sb_set 3 (sk_let (sk_proj 0 (ea := (encLi (hC D.int (hC D.int (hC (encO D.int) (h1 D.bl)))))) (ec := D.int) (fun p => p.1) (fun _ => rfl) (sk_var (i := 0) (encLi (hC D.int (hC D.int (hC (encO D.int) (h1 D.bl))))) a_drawn rfl))) (fun x1 => (sb_assoc (sb_set 4 (sk_let (sk_proj 1 (ea := (encLi (hC D.int (hC D.int (hC (encO D.int) (h1 D.bl)))))) (ec := D.int) (fun p => p.2.1) (fun _ => rfl) (sk_var (i := 0) (encLi (hC D.int (hC D.int (hC (encO D.int) (h1 D.bl))))) a_drawn rfl))) (fun x2 => (sb_assoc (sb_ifJ (env := (fun (s27 : (Int × Int)) (j28 : Unit) => ([Cell.sh ((encLi (hC D.int (hC D.int (hC (encO D.int) (h1 D.bl))))) a_drawn), Cell.sh (D.int a_size), Cell.sh (D.int a_bound), Cell.sh (D.int x1), Cell.sh (D.int x2), Cell.sh (D.int s27.1), Cell.sh (D.int s27.2)] : Fw.Env))) (st_andP (st_b (sk_isN (fun _ => rfl) (sk_proj 2 (ea := (encLi (hC D.int (hC D.int (hC (encO D.int) (h1 D.bl)))))) (ec := (encO D.int)) (fun p => p.2.2.1) (fun _ => rfl) (sk_var (i := 0) (encLi (hC D.int (hC D.int (hC (encO D.int) (h1 D.bl))))) a_drawn rfl)))) (st_b (sk_proj 3 (ea := (encLi (hC D.int (hC D.int (hC (encO D.int) (h1 D.bl)))))) (ec := D.bl) (fun p => p.2.2.2) (fun _ => rfl) (sk_var (i := 0) (encLi (hC D.int (hC D.int (hC (encO D.int) (h1 D.bl))))) a_drawn rfl)))) (sb_top (sb_assoc (sb_set 5 (sk_let (sk_callD (fe := (hC D.int (h1 D.int))) (ec := D.int) (fun a => p_universal_size_IIOI a.1 a.2 none) (fun a r h => t_universal_size_IIOI a.1 a.2 none r h) (sh_cons (sk_var (i := 3) D.int x1 rfl) (sh_one (sk_var (i := 4) D.int x2 rfl))))) (fun x19 => (sb_set 6 (sk_let (sk_callD (fe := (hC D.int (h1 D.int))) (ec := D.int) (fun a => p_size_bound_IIOI a.1 a.2 none) (fun a r h => t_size_bound_IIOI a.1 a.2 none r h) (sh_cons (sk_var (i := 3) D.int x1 rfl) (sh_one (sk_var (i := 4) D.int x2 rfl))))) (fun x20 => (sb_end (w := (x19, x20)) ⟨(), rfl⟩))))))) (sb_top (sb_assoc (sb_set 5 (sk_let (sk_callK (fe := (hC D.int (h1 D.int))) (eb := (encO D.int)) (ec := D.int) (fun a c => p_universal_size_IIOI a.1 a.2 c) (fun a c r h => t_universal_size_IIOI a.1 a.2 c r h) (sh_cons (sk_var (i := 3) D.int x1 rfl) (sh_one (sk_var (i := 4) D.int x2 rfl))) (sk_proj 2 (ea := (encLi (hC D.int (hC D.int (hC (encO D.int) (h1 D.bl)))))) (ec := (encO D.int)) (fun p => p.2.2.1) (fun _ => rfl) (sk_var (i := 0) (encLi (hC D.int (hC D.int (hC (encO D.int) (h1 D.bl))))) a_drawn rfl)))) (fun x23 => (sb_set 6 (sk_let (sk_callK (fe := (hC D.int (h1 D.int))) (eb := (encO D.int)) (ec := D.int) (fun a c => p_size_bound_IIOI a.1 a.2 c) (fun a c r h => t_size_bound_IIOI a.1 a.2 c r h) (sh_cons (sk_var (i := 3) D.int x1 rfl) (sh_one (sk_var (i := 4) D.int x2 rfl))) (sk_proj 2 (ea := (encLi (hC D.int (hC D.int (hC (encO D.int) (h1 D.bl)))))) (ec := (encO D.int)) (fun p => p.2.2.1) (fun _ => rfl) (sk_var (i := 0) (encLi (hC D.int (hC D.int (hC (encO D.int) (h1 D.bl))))) a_drawn rfl)))) (fun x24 => (sb_end (w := (x23, x24)) ⟨(), rfl⟩))))))) (fun s27 j28 => (sb_assoc (sb_if (st_or (st_not (st_b (sk_call (fe := (h1 D.int)) (ec := D.bl) (fun a => p_law_whole_I a) (fun a r h => t_law_whole_I a r h) (sh_one (sk_var (i := 5) D.int s27.1 rfl))))) (st_not (st_b (sk_call (fe := (h1 D.int)) (ec := D.bl) (fun a => p_law_whole_I a) (fun a r h => t_law_whole_I a r h) (sh_one (sk_var (i := 6) D.int s27.2 rfl)))))) (sb_ret (w := (fun a => a)) (sk_c D.bl false rfl) (fun _ => rfl)) (sb_next (sb_ret (w := (fun a => a)) (sk_andP (sk_eq eqok_int (sk_var (i := 5) D.int s27.1 rfl) (sk_var (i := 1) D.int a_size rfl)) (sk_andP (sk_eq eqok_int (sk_var (i := 6) D.int s27.2 rfl) (sk_var (i := 2) D.int a_bound rfl)) (sk_le (sk_var (i := 5) D.int s27.1 rfl) (sk_var (i := 6) D.int s27.2 rfl)))) (fun _ => rfl)))))))))))))))
  exact h r_ h_
/-- _law_utmost|fl,int -> lst(int,int,opt(int),bool) -/
theorem t_law_utmost_FI (a_script : (List Int)) (a_at : Int) (r_ : (Int × Int × (Option Int) × Bool)) (h_ : p_law_utmost_FI a_script a_at = some r_) : toFr (F_law_utmost [encF a_script, D.int a_at]) = some ((fun r => Ow.lst ((hC D.int (hC D.int (hC (encO D.int) (h1 D.bl)))) r)) r_) := by
  have h : SB (RetW (fun r => Ow.lst ((hC D.int (hC D.int (hC (encO D.int) (h1 D.bl)))) r))) (m_law_utmost) [Cell.sh (encF a_script), Cell.sh (D.int a_at), Cell.no, Cell.no] _ := (sb_top (sb_assoc (sb_set 2 (sk_let (sk_call (fe := (hC D.int (h1 (encL D.int)))) (ec := (encL D.int)) (fun a => p_law_digits_ILI a.1 a.2) (fun a r h => toFr_toD (t_law_digits_ILI a.1 a.2 r h)) (sh_cons (sk_call (fe := (hC encF (h1 D.int))) (ec := D.int) (fun a => p_law_cell_FI a.1 a.2) (fun a r h => t_law_cell_FI a.1 a.2 r h) (sh_cons (sk_var (i := 0) encF a_script rfl) (sh_one (sk_var (i := 1) D.int a_at rfl)))) (sh_one (sk_re (encL D.int) (sk_fL (sf_lst 7 (alen_cons (alen_cons (alen_cons (alen_cons (alen_cons (alen_cons (alen_cons alen_nil))))))) (by decide) (sf_cons (sk_c D.int 3 rfl) (sf_cons (sk_c D.int 1000 rfl) (sf_cons (sk_c D.int 3 rfl) (sf_cons (sk_c D.int 13 rfl) (sf_cons (sk_c D.int 5 rfl) (sf_cons (sk_c D.int 12 rfl) (sf_cons (sk_c D.int 2 rfl) (sf_nil D.int))))))))))))))) (fun x1 => (sb_assoc (sb_set 3 (sk_let (sk_ixL (sk_re (encL (encO D.int)) (sk_fL (sf_lst 5 (alen_cons (alen_cons (alen_cons (alen_cons (alen_cons alen_nil))))) (by decide) (sf_cons (sk_c (encO D.int) none rfl) (sf_cons (sk_some (sk_c D.int 12 rfl)) (sf_cons (sk_some (sk_c D.int 11 rfl)) (sf_cons (sk_some (sk_add (sk_c D.int 1 rfl) (sk_ixL (sk_var (i := 2) (encL D.int) x1 rfl) (sk_c D.int 5 rfl)))) (sf_cons (sk_some (sk_add (sk_c D.int 1 rfl) (sk_ixL (sk_var (i := 2) (encL D.int) x1 rfl) (sk_c D.int 5 rfl)))) (sf_nil (encO D.int)))))))))) (sk_ixL (sk_var (i := 2) (encL D.int) x1 rfl) (sk_c D.int 4 rfl)))) (fun x2 => (sb_retF (w := (fun a => a)) (sf_re (hC D.int (hC D.int (hC (encO D.int) (h1 D.bl)))) (sf_lst 4 (alen_cons (alen_cons (alen_cons (alen_cons alen_nil)))) (by decide) (sh_cons (sk_ixL (sk_re (encL D.int) (sk_fL (sf_lst 3 (alen_cons (alen_cons (alen_cons alen_nil))) (by decide) (sf_cons (sk_c D.int 1000000 rfl) (sf_cons (sk_c D.int 999999 rfl) (sf_cons (sk_sub (sk_c D.int 1000000 rfl) (sk_ixL (sk_var (i := 2) (encL D.int) x1 rfl) (sk_c D.int 1 rfl))) (sf_nil D.int))))))) (sk_ixL (sk_var (i := 2) (encL D.int) x1 rfl) (sk_c D.int 0 rfl))) (sh_cons (sk_ixL (sk_re (encL D.int) (sk_fL (sf_lst 3 (alen_cons (alen_cons (alen_cons alen_nil))) (by decide) (sf_cons (sk_c D.int 12 rfl) (sf_cons (sk_c D.int 11 rfl) (sf_cons (sk_ixL (sk_var (i := 2) (encL D.int) x1 rfl) (sk_c D.int 3 rfl)) (sf_nil D.int))))))) (sk_ixL (sk_var (i := 2) (encL D.int) x1 rfl) (sk_c D.int 2 rfl))) (sh_cons (sk_var (i := 3) (encO D.int) x2 rfl) (sh_one (sk_eq eqok_int (sk_ixL (sk_var (i := 2) (encL D.int) x1 rfl) (sk_c D.int 6 rfl)) (sk_c D.int 0 rfl)))))))) (fun _ => rfl)))))))))
  exact h r_ h_
/-- law|fl -> bool -/
theorem t_law (a_script : (List Int)) (r_ : Bool) (h_ : p_law a_script = some r_) : Fw.toD (F_law [encF a_script]) = some (D.bl r_) := by
  have h : SB (RetD D.bl) (m_law) [Cell.sh (encF a_script), Cell.no, Cell.no, Cell.no, Cell.no, Cell.no, Cell.no, Cell.no, Cell.no, Cell.no] _ := (sb_top (sb_assoc (sb_set 1 (sk_let (sk_call (fe := (hC encF (h1 D.int))) (ec := (encLi (hC D.int (hC D.int (hC (encO D.int) (h1 D.bl)))))) (fun a => p_law_parameters_FI a.1 a.2) (fun a r h => toFr_toD (t_law_parameters_FI a.1 a.2 r h)) (sh_cons (sk_var (i := 0) encF a_script rfl) (sh_one (sk_c D.int 0 rfl))))) (fun x1 => (sb_assoc (sb_set 2 (sk_let (sk_call (fe := (hC encF (h1 D.int))) (ec := (encLi (hC D.int (hC D.int (hC (encO D.int) (h1 D.bl)))))) (fun a => p_law_parameters_FI a.1 a.2) (fun a r h => toFr_toD (t_law_parameters_FI a.1 a.2 r h)) (sh_cons (sk_var (i := 0) encF a_script rfl) (sh_one (sk_c D.int 1 rfl))))) (fun x2 => (sb_memoN 3 rfl (fun _ _ h => retD_C h) (sk_proj 0 (ea := (encLi (hC D.int (hC D.int (hC (encO D.int) (h1 D.bl)))))) (ec := D.int) (fun p => p.1) (fun _ => rfl) (sk_var (i := 1) (encLi (hC D.int (hC D.int (hC (encO D.int) (h1 D.bl))))) x1 rfl)) (sk_proj 0 (ea := (encLi (hC D.int (hC D.int (hC (encO D.int) (h1 D.bl)))))) (ec := D.int) (fun p => p.1) (fun _ => rfl) (sk_var (i := 2) (encLi (hC D.int (hC D.int (hC (encO D.int) (h1 D.bl))))) x2 rfl)) (sk_proj 0 (ea := (encLi (hC D.int (hC D.int (hC (encO D.int) (h1 D.bl)))))) (ec := D.int) (fun p => p.1) (fun _ => rfl) (sk_call (fe := (hC encF (h1 D.int))) (ec := (encLi (hC D.int (hC D.int (hC (encO D.int) (h1 D.bl)))))) (fun a => p_law_utmost_FI a.1 a.2) (fun a r h => toFr_toD (t_law_utmost_FI a.1 a.2 r h)) (sh_cons (sk_var (i := 0) encF a_script rfl) (sh_one (sk_c D.int 3 rfl))))) (fun Ns => (sb_top (sb_assoc (sb_set 4 (sk_let (sk_szN Ns 3 rfl (sk_proj 0 (ea := (encLi (hC D.int (hC D.int (hC (encO D.int) (h1 D.bl)))))) (ec := D.int) (fun p => p.1) (fun _ => rfl) (sk_var (i := 1) (encLi (hC D.int (hC D.int (hC (encO D.int) (h1 D.bl))))) x1 rfl)) (sk_proj 1 (ea := (encLi (hC D.int (hC D.int (hC (encO D.int) (h1 D.bl)))))) (ec := D.int) (fun p => p.2.1) (fun _ => rfl) (sk_var (i := 1) (encLi (hC D.int (hC D.int (hC (encO D.int) (h1 D.bl))))) x1 rfl)) (sk_proj 2 (ea := (encLi (hC D.int (hC D.int (hC (encO D.int) (h1 D.bl)))))) (ec := (encO D.int)) (fun p => p.2.2.1) (fun _ => rfl) (sk_var (i := 1) (encLi (hC D.int (hC D.int (hC (encO D.int) (h1 D.bl))))) x1 rfl)))) (fun x4 => (sb_assoc (sb_set 5 (sk_let (sk_szN Ns 3 rfl (sk_proj 0 (ea := (encLi (hC D.int (hC D.int (hC (encO D.int) (h1 D.bl)))))) (ec := D.int) (fun p => p.1) (fun _ => rfl) (sk_var (i := 2) (encLi (hC D.int (hC D.int (hC (encO D.int) (h1 D.bl))))) x2 rfl)) (sk_proj 1 (ea := (encLi (hC D.int (hC D.int (hC (encO D.int) (h1 D.bl)))))) (ec := D.int) (fun p => p.2.1) (fun _ => rfl) (sk_var (i := 2) (encLi (hC D.int (hC D.int (hC (encO D.int) (h1 D.bl))))) x2 rfl)) (sk_proj 2 (ea := (encLi (hC D.int (hC D.int (hC (encO D.int) (h1 D.bl)))))) (ec := (encO D.int)) (fun p => p.2.2.1) (fun _ => rfl) (sk_var (i := 2) (encLi (hC D.int (hC D.int (hC (encO D.int) (h1 D.bl))))) x2 rfl)))) (fun x6 => (sb_assoc (sb_set 6 (sk_let (sk_call (fe := (hC D.int (hC D.int (h1 (encO D.int))))) (ec := D.int) (fun a => p_law_bound_IIOI a.1 a.2.1 a.2.2) (fun a r h => t_law_bound_IIOI a.1 a.2.1 a.2.2 r h) (sh_cons (sk_proj 0 (ea := (encLi (hC D.int (hC D.int (hC (encO D.int) (h1 D.bl)))))) (ec := D.int) (fun p => p.1) (fun _ => rfl) (sk_var (i := 1) (encLi (hC D.int (hC D.int (hC (encO D.int) (h1 D.bl))))) x1 rfl)) (sh_cons (sk_proj 1 (ea := (encLi (hC D.int (hC D.int (hC (encO D.int) (h1 D.bl)))))) (ec := D.int) (fun p => p.2.1) (fun _ => rfl) (sk_var (i := 1) (encLi (hC D.int (hC D.int (hC (encO D.int) (h1 D.bl))))) x1 rfl)) (sh_one (sk_proj 2 (ea := (encLi (hC D.int (hC D.int (hC (encO D.int) (h1 D.bl)))))) (ec := (encO D.int)) (fun p => p.2.2.1) (fun _ => rfl) (sk_var (i := 1) (encLi (hC D.int (hC D.int (hC (encO D.int) (h1 D.bl))))) x1 rfl))))))) (fun x7 => (sb_assoc (sb_set 7 (sk_let (sk_call (fe := (hC D.int (hC D.int (h1 (encO D.int))))) (ec := D.int) (fun a => p_law_bound_IIOI a.1 a.2.1 a.2.2) (fun a r h => t_law_bound_IIOI a.1 a.2.1 a.2.2 r h) (sh_cons (sk_proj 0 (ea := (encLi (hC D.int (hC D.int (hC (encO D.int) (h1 D.bl)))))) (ec := D.int) (fun p => p.1) (fun _ => rfl) (sk_var (i := 2) (encLi (hC D.int (hC D.int (hC (encO D.int) (h1 D.bl))))) x2 rfl)) (sh_cons (sk_proj 1 (ea := (encLi (hC D.int (hC D.int (hC (encO D.int) (h1 D.bl)))))) (ec := D.int) (fun p => p.2.1) (fun _ => rfl) (sk_var (i := 2) (encLi (hC D.int (hC D.int (hC (encO D.int) (h1 D.bl))))) x2 rfl)) (sh_one (sk_proj 2 (ea := (encLi (hC D.int (hC D.int (hC (encO D.int) (h1 D.bl)))))) (ec := (encO D.int)) (fun p => p.2.2.1) (fun _ => rfl) (sk_var (i := 2) (encLi (hC D.int (hC D.int (hC (encO D.int) (h1 D.bl))))) x2 rfl))))))) (fun x8 => (sb_assoc (sb_if (st_or (st_not (st_b (sk_call (fe := (hC (encLi (hC D.int (hC D.int (hC (encO D.int) (h1 D.bl))))) (hC D.int (h1 D.int)))) (ec := D.bl) (fun a => p_law_right_HIIOIBEII a.1 a.2.1 a.2.2) (fun a r h => t_law_right_HIIOIBEII a.1 a.2.1 a.2.2 r h) (sh_cons (sk_var (i := 1) (encLi (hC D.int (hC D.int (hC (encO D.int) (h1 D.bl))))) x1 rfl) (sh_cons (sk_var (i := 4) D.int x4 rfl) (sh_one (sk_var (i := 6) D.int x7 rfl))))))) (st_not (st_b (sk_call (fe := (hC (encLi (hC D.int (hC D.int (hC (encO D.int) (h1 D.bl))))) (hC D.int (h1 D.int)))) (ec := D.bl) (fun a => p_law_right_HIIOIBEII a.1 a.2.1 a.2.2) (fun a r h => t_law_right_HIIOIBEII a.1 a.2.1 a.2.2 r h) (sh_cons (sk_var (i := 2) (encLi (hC D.int (hC D.int (hC (encO D.int) (h1 D.bl))))) x2 rfl) (sh_cons (sk_var (i := 5) D.int x6 rfl) (sh_one (sk_var (i := 7) D.int x8 rfl)))))))) (sb_ret (w := (fun a => a)) (sk_c D.bl false rfl) (fun _ => rfl)) (sb_next (sb_assoc (sb_if (st_b (sk_eq eqok_int (sk_modR 24 (by decide) (sk_int (sk_call (fe := (hC encF (h1 D.int))) (ec := D.int) (fun a => p_law_cell_FI a.1 a.2) (fun a r h => t_law_cell_FI a.1 a.2 r h) (sh_cons (sk_var (i := 0) encF a_script rfl) (sh_one (sk_c D.int 2 rfl)))))) (sk_c D.int 0 rfl))) (sb_assoc (sb_set 8 (sk_let (sk_call (fe := (hC encF (h1 D.int))) (ec := (encLi (hC D.int (hC D.int (hC (encO D.int) (h1 D.bl)))))) (fun a => p_law_utmost_FI a.1 a.2) (fun a r h => toFr_toD (t_law_utmost_FI a.1 a.2 r h)) (sh_cons (sk_var (i := 0) encF a_script rfl) (sh_one (sk_c D.int 3 rfl))))) (fun x9 => (sb_assoc (sb_set 9 (sk_let (sk_szN Ns 3 rfl (sk_proj 0 (ea := (encLi (hC D.int (hC D.int (hC (encO D.int) (h1 D.bl)))))) (ec := D.int) (fun p => p.1) (fun _ => rfl) (sk_var (i := 8) (encLi (hC D.int (hC D.int (hC (encO D.int) (h1 D.bl))))) x9 rfl)) (sk_proj 1 (ea := (encLi (hC D.int (hC D.int (hC (encO D.int) (h1 D.bl)))))) (ec := D.int) (fun p => p.2.1) (fun _ => rfl) (sk_var (i := 8) (encLi (hC D.int (hC D.int (hC (encO D.int) (h1 D.bl))))) x9 rfl)) (sk_proj 2 (ea := (encLi (hC D.int (hC D.int (hC (encO D.int) (h1 D.bl)))))) (ec := (encO D.int)) (fun p => p.2.2.1) (fun _ => rfl) (sk_var (i := 8) (encLi (hC D.int (hC D.int (hC (encO D.int) (h1 D.bl))))) x9 rfl)))) (fun x11 => (sb_if (st_not (st_b (sk_call (fe := (hC (encLi (hC D.int (hC D.int (hC (encO D.int) (h1 D.bl))))) (hC D.int (h1 D.int)))) (ec := D.bl) (fun a => p_law_right_HIIOIBEII a.1 a.2.1 a.2.2) (fun a r h => t_law_right_HIIOIBEII a.1 a.2.1 a.2.2 r h) (sh_cons (sk_var (i := 8) (encLi (hC D.int (hC D.int (hC (encO D.int) (h1 D.bl))))) x9 rfl) (sh_cons (sk_var (i := 9) D.int x11 rfl) (sh_one (sk_call (fe := (hC D.int (hC D.int (h1 (encO D.int))))) (ec := D.int) (fun a => p_law_bound_IIOI a.1 a.2.1 a.2.2) (fun a r h => t_law_bound_IIOI a.1 a.2.1 a.2.2 r h) (sh_cons (sk_proj 0 (ea := (encLi (hC D.int (hC D.int (hC (encO D.int) (h1 D.bl)))))) (ec := D.int) (fun p => p.1) (fun _ => rfl) (sk_var (i := 8) (encLi (hC D.int (hC D.int (hC (encO D.int) (h1 D.bl))))) x9 rfl)) (sh_cons (sk_proj 1 (ea := (encLi (hC D.int (hC D.int (hC (encO D.int) (h1 D.bl)))))) (ec := D.int) (fun p => p.2.1) (fun _ => rfl) (sk_var (i := 8) (encLi (hC D.int (hC D.int (hC (encO D.int) (h1 D.bl))))) x9 rfl)) (sh_one (sk_proj 2 (ea := (encLi (hC D.int (hC D.int (hC (encO D.int) (h1 D.bl)))))) (ec := (encO D.int)) (fun p => p.2.2.1) (fun _ => rfl) (sk_var (i := 8) (encLi (hC D.int (hC D.int (hC (encO D.int) (h1 D.bl))))) x9 rfl)))))))))))) (sb_ret (w := (fun a => a)) (sk_c D.bl false rfl) (fun _ => rfl)) (sb_next (sb_ret (w := (fun a => a)) (sk_call (fe := (hC (encLi (hC D.int (hC D.int (hC (encO D.int) (h1 D.bl))))) (hC D.int (h1 D.int)))) (ec := D.bl) (fun a => p_law_right_HIIOIBEII a.1 a.2.1 a.2.2) (fun a r h => t_law_right_HIIOIBEII a.1 a.2.1 a.2.2 r h) (sh_cons (sk_var (i := 1) (encLi (hC D.int (hC D.int (hC (encO D.int) (h1 D.bl))))) x1 rfl) (sh_cons (sk_var (i := 4) D.int x4 rfl) (sh_one (sk_var (i := 6) D.int x7 rfl))))) (fun _ => rfl)))))))))) (sb_next (sb_ret (w := (fun a => a)) (sk_call (fe := (hC (encLi (hC D.int (hC D.int (hC (encO D.int) (h1 D.bl))))) (hC D.int (h1 D.int)))) (ec := D.bl) (fun a => p_law_right_HIIOIBEII a.1 a.2.1 a.2.2) (fun a r h => t_law_right_HIIOIBEII a.1 a.2.1 a.2.2 r h) (sh_cons (sk_var (i := 1) (encLi (hC D.int (hC D.int (hC (encO D.int) (h1 D.bl))))) x1 rfl) (sh_cons (sk_var (i := 4) D.int x4 rfl) (sh_one (sk_var (i := 6) D.int x7 rfl))))) (fun _ => rfl))))))))))))))))))))))))))))))
  exact h r_ h_
end
end Lw
namespace Lw
open PySem PySem.Spec PyProof.Rows L2 Fw
theorem law_holds : ∀ ns : List Int, ns.length ≤ 63 → F_law [.fl (ns.map D.int)] = .ok (.bl true) := fun ns h => ret_bl (t_law ns true (law_typed ns))
theorem walk {l : PySem.W.OpenLaw} {q : Program} {loose : List Str} {XP : (Str → Option Value) → Heap → Prop} {YP : World → Heap → Prop} {d : DefRec} {K : Params → PySem.W.Frag} (hn : l.most = some 63) (hdf : d.params.defaults = [])
    (hY : ∀ (w : World) (h : Heap), YP w h → (K w.params).In h)
    (F : ∀ (w : World) (mg : Str → Option Value) (fa : Addr) (h : Heap), (K w.params).In h → h.Ns mainGlobals mg → mg d.name = some (.ref fa) →
      ∃ (cl : Nat → ClsT) (fd : FuncData), (∀ (s : Shared) (u : Value), BindsTo s fd ⟨[u], []⟩ [("script", u)]) ∧ ∀ base : Heap, (K w.params).In base → base.Ns mainGlobals mg → Fw.FnOk l.prog w (K w.params) mg base CX0 50 fa fd ["script"] (spF (K w.params) cl 1 F_law)) :
    PySem.W.WalkO q loose XP YP l.row.toRowW d [] (fun f vs => PySem.call f vs) :=
  Fw.walk_of (n := 63) (k := 50) (x := "script") (sp := fun w => spLaw (K w.params)) hn (by decide) hdf (Fw.caller_room ⟨rfl, by decide, by decide⟩) hY (fun w mg fa h h1 h2 h3 => by
    obtain ⟨cl, fd, b, k⟩ := F w mg fa h h1 h2 h3
    exact ⟨fd, b, fun base h4 h5 => law_spec law_holds (k base h4 h5)⟩) (fun _ _ a ns hl _ hS => ⟨a, ns, rfl, hS, hl, fun _ => rfl⟩)
end Lw
open PySem PySem.W PyProof.Rows
set_option maxRecDepth 100000 in
set_option maxHeartbeats 0 in
theorem PySem.Challenge.cw_holdsalltrees_k11_sizes_and_bounds_holds : PySem.Challenge.rw_holdsalltrees_k11_sizes_and_bounds.Holds := by
  w_on; o_law; k_head; (case hw => w_witness2)
  k_fill
  refine Lw.walk (l := PySem.Challenge.rw_holdsalltrees_k11_sizes_and_bounds) rfl rfl (fun w h Y => PySem.W.kIn_of Y) ?F
  case F =>
    intro w mg fa h KX G hmg
    refine' Lw.all_mk KX G hmg ?g_comb ?a1 ?l1 ?c1 ?k1 ?a2 ?l2 ?c2 ?k2 ?a3 ?l3 ?c3 ?k3 ?a4 ?l4 ?c4 ?k4 ?a5 ?l5 ?c5 ?k5 ?a6 ?l6 ?w6 ?c6 ?k6 ?a7 ?l7 ?w7 ?c7 ?k7 ?a8 ?l8 ?c8 ?k8 ?a9 ?l9 ?c9 ?k9 ?a10 ?l10 ?c10 ?k10 ?a11 ?l11 ?c11 ?k11 ?a12 ?l12 ?c12 ?k12 ?a13 ?l13 ?c13 ?k13 ?a14 ?l14 ?c14 ?k14 ?a15 ?l15 ?c15 ?k15 ?a16 ?l16 ?c16 ?k16 ?a17 ?l17 ?c17 ?k17 ?a18 ?l18 ?c18 ?k18 ?a19 ?l19 ?c19 ?k19 ?z_len ?z_int ?z_bool ?z_str ?z_range ?z_isinstance ?z_tuple ?z_list ?z_dict ?z_set ?z_max ?z_min ?z_sum ?z_any ?z_all ?z_sorted ?z_enumerate ?z_zip ?z_reversed ?z_repr
    (case g_comb => k_is)
    (case a1 => k_is)
    (case l1 => k_is)
    (case c1 => k_is)
    (case k1 => k_is)
    (case a2 => k_is)
    (case l2 => k_is)
    (case c2 => k_is)
    (case k2 => k_is)
    (case a3 => k_is)
    (case l3 => k_is)
    (case c3 => k_is)
    (case k3 => k_is)
    (case a4 => k_is)
    (case l4 => k_is)
    (case c4 => k_is)
    (case k4 => k_is)
    (case a5 => k_is)
    (case l5 => k_is)
    (case c5 => k_is)
    (case k5 => k_is)
    (case a6 => k_is)
    (case l6 => k_is)
    (case w6 => k_is)
    (case c6 => k_is)
    (case k6 => k_is)
    (case a7 => k_is)
    (case l7 => k_is)
    (case w7 => k_is)
    (case c7 => k_is)
    (case k7 => k_is)
    (case a8 => k_is)
    (case l8 => k_is)
    (case c8 => k_is)
    (case k8 => k_is)
    (case a9 => k_is)
    (case l9 => k_is)
    (case c9 => k_is)
    (case k9 => k_is)
    (case a10 => k_is)
    (case l10 => k_is)
    (case c10 => k_is)
    (case k10 => k_is)
    (case a11 => k_is)
    (case l11 => k_is)
    (case c11 => k_is)
    (case k11 => k_is)
    (case a12 => k_is)
    (case l12 => k_is)
    (case c12 => k_is)
    (case k12 => k_is)
    (case a13 => k_is)
    (case l13 => k_is)
    (case c13 => k_is)
    (case k13 => k_is)
    (case a14 => k_is)
    (case l14 => k_is)
    (case c14 => k_is)
    (case k14 => k_is)
    (case a15 => k_is)
    (case l15 => k_is)
    (case c15 => k_is)
    (case k15 => k_is)
    (case a16 => k_is)
    (case l16 => k_is)
    (case c16 => k_is)
    (case k16 => k_is)
    (case a17 => k_is)
    (case l17 => k_is)
    (case c17 => k_is)
    (case k17 => k_is)
    (case a18 => k_is)
    (case l18 => k_is)
    (case c18 => k_is)
    (case k18 => k_is)
    (case a19 => k_is)
    (case l19 => k_is)
    (case c19 => k_is)
    (case k19 => k_is)
    (case z_len => k_is)
    (case z_int => k_is)
    (case z_bool => k_is)
    (case z_str => k_is)
    (case z_range => k_is)
    (case z_isinstance => k_is)
    (case z_tuple => k_is)
    (case z_list => k_is)
    (case z_dict => k_is)
    (case z_set => k_is)
    (case z_max => k_is)
    (case z_min => k_is)
    (case z_sum => k_is)
    (case z_any => k_is)
    (case z_all => k_is)
    (case z_sorted => k_is)
    (case z_enumerate => k_is)
    (case z_zip => k_is)
    (case z_reversed => k_is)
    (case z_repr => k_is)
