import PyProof.Rows.All
import Wide.All
import OpenK.AllK
import Wide.FinOn
import HandS.ForMost
import HandS.WordsExc
import HandS.TupAny
import HandS.IsInst
import HandS.Deep
import HandS.Zip
import PySem.Challenge.RW_holeform_k24_straight
section
set_option Elab.async false
set_option linter.all false
set_option maxRecDepth 20000
set_option autoImplicit false
/-! HF1: values as trees, the state of a def as slots and cells, and what it means that a state of the hand layer bears them. -/
namespace HF
open PySem PySem.Spec PyProof.Rows L2

/-- a value: tuples, lists and dicts that never change any more are told by what they hold -/
inductive PV where
  | non
  | bl (b : Bool)
  | int (i : Int)
  | str (x : Str)
  | tup (xs : List PV)
  | lst (xs : List PV)
  | dct (ks : List Key) (xs : List PV)
  | ref (r : Nat)
  | con (a : Addr)
  | rol (xs : List PV)
/-- a thing that may change -/
inductive PO where
  | lst (xs : List PV)
  | dct (ks : List Key) (xs : List PV)
  | ins (C : Addr) (ns : List Str) (xs : List PV)
/-- ghosts: the frozen addresses; where the cells stand -/
structure Gh where
  F : Addr → Prop
  al : List Addr
/-- the kinds that are read -/
def Plain : HO → Prop
  | .lst _ => True
  | .tup _ => True
  | .dK _ => True
  | _ => False
def noHp : Hp := fun _ => none
section
variable (K : PySem.W.Frag) (G : Gh) (H : Hp)
def FzL (a : Addr) (us : List V) : Prop := us.length ≤ sizeLine ∧ ((G.F a ∧ Rd H a (.lst us)) ∨ SqL K noHp a us)
def FzT (a : Addr) (us : List V) : Prop := us.length ≤ sizeLine ∧ ((G.F a ∧ Rd H a (.tup us)) ∨ SqT K noHp a us)
mutual
def RepV : PV → V → Prop
  | .non, v => v = .non
  | .bl b, v => v = .bl b
  | .int i, v => v = .int i
  | .str x, v => v = .str x
  | .tup xs, v => ∃ a us, v = .ref a ∧ FzT K G H a us ∧ RepVs xs us
  | .lst xs, v => ∃ a us, v = .ref a ∧ (us.length ≤ sizeLine ∧ G.F a ∧ Rd H a (.lst us)) ∧ RepVs xs us
  | .dct ks xs, v => ∃ a kvs, v = .ref a ∧ (G.F a ∧ Rd H a (.dK kvs)) ∧ kvs.length ≤ sizeLine ∧ kvs.map (·.1) = ks ∧ RepVs xs (kvs.map (·.2))
  | .ref r, v => ∃ a, v = .ref a ∧ G.al[r]? = some a
  | .con a, v => v = .ref a
  | .rol xs, v => ∃ a us, v = .ref a ∧ FzL K G H a us ∧ RepVs xs us
def RepVs : List PV → List V → Prop
  | [], us => us = []
  | x :: xs, us => ∃ u ws, us = u :: ws ∧ RepV x u ∧ RepVs xs ws
end
def RepO : PO → HO → Prop
  | .lst xs, o => ∃ us, o = .lst us ∧ us.length ≤ sizeLine ∧ RepVs K G H xs us
  | .dct ks xs, o => ∃ kvs, o = .dK kvs ∧ kvs.length ≤ sizeLine ∧ kvs.map (·.1) = ks ∧ RepVs K G H xs (kvs.map (·.2))
  | .ins C ns xs, o => ∃ dx fs, o = .ins C dx fs ∧ fs.map (·.1) = ns ∧ RepVs K G H xs (fs.map (·.2))
end

/-- what later states keep of values -/
structure Ext (G : Gh) (H : Hp) (G' : Gh) (H' : Hp) : Prop where
  f : ∀ a, G.F a → G'.F a
  rd : ∀ a u, G.F a → Plain u → Rd H a u → Rd H' a u
  al : ∀ (r : Nat) (a : Addr), G.al[r]? = some a → G'.al[r]? = some a
theorem Ext.refl (G : Gh) (H : Hp) : Ext G H G H := ⟨fun _ h => h, fun _ _ _ _ h => h, fun _ _ h => h⟩
theorem Ext.trans {G0 G1 G2 : Gh} {H0 H1 H2 : Hp} (x : Ext G0 H0 G1 H1) (y : Ext G1 H1 G2 H2) : Ext G0 H0 G2 H2 :=
  ⟨fun a h => y.f a (x.f a h), fun a u h p r => y.rd a u (x.f a h) p (x.rd a u h p r), fun r a h => y.al r a (x.al r a h)⟩

section
variable {K : PySem.W.Frag} {G G' : Gh} {H H' : Hp}
theorem FzL.mono (x : Ext G H G' H') {a : Addr} {us : List V} (h : FzL K G H a us) : FzL K G' H' a us :=
  ⟨h.1, h.2.imp (fun ⟨f, r⟩ => ⟨x.f a f, x.rd a _ f trivial r⟩) id⟩
theorem FzT.mono (x : Ext G H G' H') {a : Addr} {us : List V} (h : FzT K G H a us) : FzT K G' H' a us :=
  ⟨h.1, h.2.imp (fun ⟨f, r⟩ => ⟨x.f a f, x.rd a _ f trivial r⟩) id⟩
theorem FzL.sq {a : Addr} {us : List V} (h : FzL K G H a us) : SqL K H a us := by
  rcases h.2 with ⟨_, r⟩ | r
  · exact .inl r
  · rcases r with (r | ⟨o, r⟩) | r
    · cases r
    · cases r
    · exact .inr r
theorem FzT.sq {a : Addr} {us : List V} (h : FzT K G H a us) : SqT K H a us := by
  rcases h.2 with ⟨_, r⟩ | r
  · exact .inl r
  · rcases r with (r | ⟨o, r⟩) | r
    · cases r
    · cases r
    · exact .inr r
mutual
theorem RepV.mono (x : Ext G H G' H') : ∀ (p : PV) (v : V), RepV K G H p v → RepV K G' H' p v
  | .non, v, h => h
  | .bl b, v, h => h
  | .int i, v, h => h
  | .str s, v, h => h
  | .tup xs, v, h => by
    simp only [RepV] at h ⊢
    obtain ⟨a, us, e, f, r⟩ := h
    exact ⟨a, us, e, f.mono x, RepVs.mono x xs us r⟩
  | .lst xs, v, h => by
    simp only [RepV] at h ⊢
    obtain ⟨a, us, e, ⟨f0, f1, f2⟩, r⟩ := h
    exact ⟨a, us, e, ⟨f0, x.f a f1, x.rd a _ f1 trivial f2⟩, RepVs.mono x xs us r⟩
  | .rol xs, v, h => by
    simp only [RepV] at h ⊢
    obtain ⟨a, us, e, f, r⟩ := h
    exact ⟨a, us, e, f.mono x, RepVs.mono x xs us r⟩
  | .dct ks xs, v, h => by
    simp only [RepV] at h ⊢
    obtain ⟨a, us, e, ⟨f1, f2⟩, z, k, r⟩ := h
    exact ⟨a, us, e, ⟨x.f a f1, x.rd a _ f1 trivial f2⟩, z, k, RepVs.mono x xs _ r⟩
  | .ref r, v, h => by
    simp only [RepV] at h ⊢
    obtain ⟨a, e, q⟩ := h
    exact ⟨a, e, x.al r a q⟩
  | .con a, v, h => h
theorem RepVs.mono (x : Ext G H G' H') : ∀ (ps : List PV) (vs : List V), RepVs K G H ps vs → RepVs K G' H' ps vs
  | [], vs, h => h
  | p :: ps, vs, h => by
    simp only [RepVs] at h ⊢
    obtain ⟨u, ws, e, r, rs⟩ := h
    exact ⟨u, ws, e, RepV.mono x p u r, RepVs.mono x ps ws rs⟩
end
theorem RepO.mono (x : Ext G H G' H') {o : PO} {u : HO} (h : RepO K G H o u) : RepO K G' H' o u := by
  cases o with
  | lst xs => obtain ⟨us, e, z, r⟩ := h; exact ⟨us, e, z, RepVs.mono x _ _ r⟩
  | dct ks xs => obtain ⟨us, e, z, k, r⟩ := h; exact ⟨us, e, z, k, RepVs.mono x _ _ r⟩
  | ins C ns xs => obtain ⟨dx, us, e, k, r⟩ := h; exact ⟨dx, us, e, k, RepVs.mono x _ _ r⟩
theorem RepVs.nil_iff {vs : List V} : RepVs K G H [] vs ↔ vs = [] := by simp only [RepVs]
theorem RepVs.cons_iff {p : PV} {ps : List PV} {vs : List V} : RepVs K G H (p :: ps) vs ↔ ∃ u ws, vs = u :: ws ∧ RepV K G H p u ∧ RepVs K G H ps ws := by simp only [RepVs]
theorem RepVs.nil : RepVs K G H [] [] := RepVs.nil_iff.mpr rfl
theorem RepVs.cons {p : PV} {ps : List PV} {v : V} {vs : List V} (h : RepV K G H p v) (t : RepVs K G H ps vs) : RepVs K G H (p :: ps) (v :: vs) := RepVs.cons_iff.mpr ⟨v, vs, rfl, h, t⟩
theorem RepVs.length : ∀ {ps : List PV} {vs : List V}, RepVs K G H ps vs → ps.length = vs.length
  | [], vs, h => by rw [RepVs.nil_iff.mp h]; rfl
  | p :: ps, vs, h => by
    obtain ⟨u, ws, rfl, _, t⟩ := RepVs.cons_iff.mp h
    simp [RepVs.length t]
theorem RepVs.append : ∀ {ps qs : List PV} {vs ws : List V}, RepVs K G H ps vs → RepVs K G H qs ws → RepVs K G H (ps ++ qs) (vs ++ ws)
  | [], qs, vs, ws, h, g => by rw [RepVs.nil_iff.mp h]; exact g
  | p :: ps, qs, vs, ws, h, g => by
    obtain ⟨u, us, rfl, r, t⟩ := RepVs.cons_iff.mp h
    exact RepVs.cons r (RepVs.append t g)
theorem RepVs.get : ∀ {ps : List PV} {vs : List V} {i : Nat} {p : PV}, RepVs K G H ps vs → ps[i]? = some p → ∃ v, vs[i]? = some v ∧ RepV K G H p v
  | [], vs, i, p, h, e => by simp at e
  | q :: ps, vs, i, p, h, e => by
    obtain ⟨u, us, rfl, r, t⟩ := RepVs.cons_iff.mp h
    cases i with
    | zero => simp at e; subst e; exact ⟨u, rfl, r⟩
    | succ i => exact RepVs.get (i := i) t (by simpa using e)
theorem RepVs.getV : ∀ {ps : List PV} {vs : List V} {i : Nat} {v : V}, RepVs K G H ps vs → vs[i]? = some v → ∃ p, ps[i]? = some p ∧ RepV K G H p v
  | [], vs, i, p, h, e => by rw [RepVs.nil_iff.mp h] at e; simp at e
  | q :: ps, vs, i, p, h, e => by
    obtain ⟨u, us, rfl, r, t⟩ := RepVs.cons_iff.mp h
    cases i with
    | zero => simp at e; subst e; exact ⟨q, rfl, r⟩
    | succ i => exact RepVs.getV (i := i) t (by simpa using e)
theorem RepVs.take : ∀ {ps : List PV} {vs : List V} (n : Nat), RepVs K G H ps vs → RepVs K G H (ps.take n) (vs.take n)
  | ps, vs, 0, h => by simpa using RepVs.nil
  | [], vs, n + 1, h => by rw [RepVs.nil_iff.mp h]; simpa using RepVs.nil
  | p :: ps, vs, n + 1, h => by
    obtain ⟨u, us, rfl, r, t⟩ := RepVs.cons_iff.mp h
    exact RepVs.cons r (RepVs.take n t)
theorem RepVs.drop : ∀ {ps : List PV} {vs : List V} (n : Nat), RepVs K G H ps vs → RepVs K G H (ps.drop n) (vs.drop n)
  | ps, vs, 0, h => by simpa using h
  | [], vs, n + 1, h => by rw [RepVs.nil_iff.mp h]; simpa using RepVs.nil
  | p :: ps, vs, n + 1, h => by
    obtain ⟨u, us, rfl, r, t⟩ := RepVs.cons_iff.mp h
    exact RepVs.drop n t
theorem RepVs.set : ∀ {ps : List PV} {vs : List V} {p : PV} {v : V} (i : Nat), RepVs K G H ps vs → RepV K G H p v → RepVs K G H (ps.set i p) (vs.set i v)
  | [], vs, p, v, i, h, _ => by rw [RepVs.nil_iff.mp h]; exact RepVs.nil
  | q :: ps, vs, p, v, i, h, k => by
    obtain ⟨u, us, rfl, r, t⟩ := RepVs.cons_iff.mp h
    cases i with
    | zero => exact RepVs.cons k t
    | succ i => exact RepVs.cons r (RepVs.set i t k)
theorem RepVs.eraseIdx : ∀ {ps : List PV} {vs : List V} (i : Nat), RepVs K G H ps vs → RepVs K G H (ps.eraseIdx i) (vs.eraseIdx i)
  | [], vs, i, h => by rw [RepVs.nil_iff.mp h]; exact RepVs.nil
  | q :: ps, vs, i, h => by
    obtain ⟨u, us, rfl, r, t⟩ := RepVs.cons_iff.mp h
    cases i with
    | zero => exact t
    | succ i => exact RepVs.cons r (RepVs.eraseIdx i t)
theorem RepVs.reverse : ∀ {ps : List PV} {vs : List V}, RepVs K G H ps vs → RepVs K G H ps.reverse vs.reverse
  | [], vs, h => by rw [RepVs.nil_iff.mp h]; exact RepVs.nil
  | q :: ps, vs, h => by
    obtain ⟨u, us, rfl, r, t⟩ := RepVs.cons_iff.mp h
    rw [List.reverse_cons, List.reverse_cons]
    exact (RepVs.reverse t).append (RepVs.cons r RepVs.nil)
theorem RepVs.snoc {ps : List PV} {vs : List V} {p : PV} {v : V} (h : RepVs K G H ps vs) (k : RepV K G H p v) : RepVs K G H (ps ++ [p]) (vs ++ [v]) := h.append (RepVs.cons k RepVs.nil)
theorem RepVs.dropLast {ps : List PV} {vs : List V} (h : RepVs K G H ps vs) : RepVs K G H ps.dropLast vs.dropLast := by
  rw [List.dropLast_eq_take, List.dropLast_eq_take, h.length]
  exact h.take _
end

/-- a slot: a value, or a thing that this slot alone holds -/
inductive LV where
  | v (p : PV)
  | own (o : PO)
/-- slots and cells -/
structure Mem where
  r : List (Option LV)
  h : List PO
/-- the entry of a def -/
structure Ent where
  G : Gh
  H : Hp
structure HpRep (K : PySem.W.Frag) (G : Gh) (h : List PO) (H : Hp) : Prop where
  fdom : ∀ a, G.F a → H a ≠ none
  nd : G.al.Nodup
  len : h.length = G.al.length
  obj : ∀ (r : Nat) (a : Addr) (o : PO), G.al[r]? = some a → h[r]? = some o → ¬ G.F a ∧ ∃ u, H a = some u ∧ RepO K G H o u
structure Post (G0 : Gh) (H0 : Hp) (G : Gh) (H : Hp) : Prop where
  f : ∀ a, G0.F a → G.F a
  fnew : ∀ a, G.F a → G0.F a ∨ H0 a = none
  al : ∃ l, G.al = G0.al ++ l ∧ ∀ a ∈ l, H0 a = none
  keep : ∀ a u, H0 a = some u → a ∉ G0.al → ¬ G0.F a → H a = some u
  rd : ∀ a u, G0.F a → Plain u → Rd H0 a u → Rd H a u
  dom : ∀ a, H a = none → H0 a = none
theorem Post.refl (G : Gh) (H : Hp) : Post G H G H := ⟨fun _ h => h, fun _ h => .inl h, ⟨[], by simp, by simp⟩, fun _ _ h _ _ => h, fun _ _ _ _ h => h, fun _ h => h⟩
theorem Post.ext {G0 : Gh} {H0 : Hp} {G : Gh} {H : Hp} (p : Post G0 H0 G H) : Ext G0 H0 G H := by
  refine ⟨p.f, p.rd, fun r a h => ?_⟩
  obtain ⟨l, e, _⟩ := p.al
  rw [e, List.getElem?_append_left (List.getElem?_eq_some_iff.mp h).1]
  exact h
theorem Post.noal {G0 : Gh} {H0 : Hp} {G : Gh} {H : Hp} (p : Post G0 H0 G H) {a : Addr} {u : HO} (h : H0 a = some u) (n : a ∉ G0.al) : a ∉ G.al := by
  obtain ⟨l, e, q⟩ := p.al
  rw [e, List.mem_append]
  rintro (z | z)
  · exact n z
  · rw [q a z] at h; cases h
theorem Post.nof {G0 : Gh} {H0 : Hp} {G : Gh} {H : Hp} (p : Post G0 H0 G H) {a : Addr} {u : HO} (h : H0 a = some u) (n : ¬ G0.F a) : ¬ G.F a := fun z => by
  rcases p.fnew a z with z | z
  · exact n z
  · rw [z] at h; cases h
theorem Post.trans {G0 G1 G2 : Gh} {H0 H1 H2 : Hp} (p : Post G0 H0 G1 H1) (q : Post G1 H1 G2 H2) : Post G0 H0 G2 H2 := by
  refine ⟨fun a h => q.f a (p.f a h), fun a h => ?_, ?_, fun a u h n m => ?_, fun a u h pl r => q.rd a u (p.f a h) pl (p.rd a u h pl r), fun a h => p.dom a (q.dom a h)⟩
  · rcases q.fnew a h with z | z
    · exact p.fnew a z
    · exact .inr (p.dom a z)
  · obtain ⟨l, e, x⟩ := p.al
    obtain ⟨l', e', x'⟩ := q.al
    refine ⟨l ++ l', by rw [e', e, List.append_assoc], fun a ha => ?_⟩
    rcases List.mem_append.mp ha with z | z
    · exact x a z
    · exact p.dom a (x' a z)
  · exact q.keep a u (p.keep a u h n m) (p.noal h n) (p.nof h m)

/-- an address that a slot alone holds -/
def OwnAt (r : List (Option LV)) (s : L2.St) (a : Addr) : Prop := ∃ (i : Nat) (o : PO), r[i]? = some (some (LV.own o)) ∧ s[i]? = some (some (V.ref a))
structure StRep (K : PySem.W.Frag) (E : Ent) (G : Gh) (M : Mem) (s : L2.St) (H : Hp) : Prop where
  post : Post E.G E.H G H
  hp : HpRep K G M.h H
  len : M.r.length = s.length
  slot : ∀ (i : Nat) (p : PV), M.r[i]? = some (some (.v p)) → ∃ u, s[i]? = some (some u) ∧ RepV K G H p u
  own : ∀ (i : Nat) (o : PO), M.r[i]? = some (some (.own o)) → ∃ a u, s[i]? = some (some (.ref a)) ∧ H a = some u ∧ RepO K G H o u ∧ E.H a = none ∧ ¬ G.F a ∧ a ∉ G.al
  sep : ∀ (i j : Nat) (o o' : PO) (a : Addr), M.r[i]? = some (some (.own o)) → M.r[j]? = some (some (.own o')) → s[i]? = some (some (.ref a)) → s[j]? = some (some (.ref a)) → i = j
/-- what an expression's run keeps -/
structure Evo (s : L2.St) (G : Gh) (M : Mem) (H : Hp) (G' : Gh) (M' : Mem) (H' : Hp) : Prop where
  ext : Ext G H G' H'
  keep : ∀ a u, H a = some u → a ∉ G.al → ¬ G.F a → ¬ OwnAt M.r s a → H' a = some u ∧ a ∉ G'.al ∧ ¬ G'.F a
  own : ∀ a, OwnAt M'.r s a → OwnAt M.r s a
  dom : ∀ a, H' a = none → H a = none
theorem Evo.refl (s : L2.St) (G : Gh) (M : Mem) (H : Hp) : Evo s G M H G M H := ⟨Ext.refl _ _, fun _ _ h a b c => ⟨h, a, b⟩, fun _ h => h, fun _ h => h⟩
theorem Evo.trans {s : L2.St} {G0 G1 G2 : Gh} {M0 M1 M2 : Mem} {H0 H1 H2 : Hp} (x : Evo s G0 M0 H0 G1 M1 H1) (y : Evo s G1 M1 H1 G2 M2 H2) : Evo s G0 M0 H0 G2 M2 H2 :=
  ⟨x.ext.trans y.ext, fun a u h n f o => by obtain ⟨h1, n1, f1⟩ := x.keep a u h n f o; exact y.keep a u h1 n1 f1 (fun z => o (x.own a z)), fun a h => x.own a (y.own a h), fun a h => x.dom a (y.dom a h)⟩

/-- what an expression gives: a value; a new thing that nothing else holds; the thing that a slot alone holds -/
inductive EV where
  | v (p : PV)
  | fr (o : PO)
  | sl (i : Nat)
/-- H0: the heap as the expression's run began -/
def RepE (K : PySem.W.Frag) (E : Ent) (H0 : Hp) (G : Gh) (M : Mem) (s : L2.St) (H : Hp) : EV → V → Prop
  | .v p, u => RepV K G H p u
  | .fr o, u => ∃ a w, u = .ref a ∧ H a = some w ∧ RepO K G H o w ∧ E.H a = none ∧ ¬ G.F a ∧ a ∉ G.al ∧ ¬ OwnAt M.r s a ∧ H0 a = none
  | .sl i, u => s[i]? = some (some u)
theorem RepE.evo {K : PySem.W.Frag} {E : Ent} {s : L2.St} {G G' : Gh} {M M' : Mem} {H0 H H' : Hp} (x : Evo s G M H G' M' H') : ∀ {e : EV} {u : V}, RepE K E H0 G M s H e u → RepE K E H0 G' M' s H' e u
  | .v p, u, h => RepV.mono x.ext p u h
  | .fr o, u, ⟨a, w, e, h, r, n, f, l, ow, z⟩ => by
    obtain ⟨h1, l1, f1⟩ := x.keep a w h l f ow
    exact ⟨a, w, e, h1, r.mono x.ext, n, f1, l1, fun y => ow (x.own a y), z⟩
  | .sl i, u, h => h
theorem RepE.old {K : PySem.W.Frag} {E : Ent} {s : L2.St} {G : Gh} {M : Mem} {H0 H1 H : Hp} (x : ∀ a, H1 a = none → H0 a = none) : ∀ {e : EV} {u : V}, RepE K E H1 G M s H e u → RepE K E H0 G M s H e u
  | .v p, u, h => h
  | .fr o, u, ⟨a, w, e, h, r, n, f, l, ow, z⟩ => ⟨a, w, e, h, r, n, f, l, ow, x a z⟩
  | .sl i, u, h => h
/-- a def's answer, seen by the caller -/
def RepR (K : PySem.W.Frag) (H0 : Hp) (G : Gh) (H : Hp) : EV → V → Prop
  | .v p, u => RepV K G H p u
  | .fr o, u => ∃ a w, u = .ref a ∧ H a = some w ∧ RepO K G H o w ∧ H0 a = none ∧ ¬ G.F a ∧ a ∉ G.al
  | .sl _, _ => False

/-! ### steps of the ghosts -/
section
variable {K : PySem.W.Frag} {E : Ent} {G : Gh} {M : Mem} {s : L2.St} {H : Hp}
theorem Rd.upd_ne {H : Hp} {a p : Addr} {o u : HO} (n : a ≠ p) (h : Rd H a u) : Rd (upd H p o) a u := by
  rcases h with h | ⟨x, h⟩
  · exact .inl (by rw [L2.upd_ne n]; exact h)
  · exact .inr ⟨x, by rw [L2.upd_ne n]; exact h⟩
theorem HpRep.nF (h : HpRep K G M.h H) {p : Addr} (hp : H p = none) : ¬ G.F p := fun z => h.fdom p z hp
theorem HpRep.nAl {hh : List PO} (h : HpRep K G hh H) {p : Addr} (hp : H p = none) : p ∉ G.al := fun z => by
  obtain ⟨r, hr⟩ := List.getElem?_of_mem z
  have hl : r < hh.length := by rw [h.len]; exact (List.getElem?_eq_some_iff.mp hr).1
  obtain ⟨_, u, e, _⟩ := h.obj r p hh[r] hr (List.getElem?_eq_getElem hl)
  rw [e] at hp; cases hp
/-- a write at an address that is not frozen: values stay -/
theorem ext_upd {p : Addr} {o : HO} (nf : ¬ G.F p) : Ext G H G (upd H p o) :=
  ⟨fun _ h => h, fun a u f _ r => Rd.upd_ne (fun e => nf (e ▸ f)) r, fun _ _ h => h⟩
theorem post_upd {G0 : Gh} {H0 : Hp} {p : Addr} {o : HO} (x : Post G0 H0 G H) (nf : ¬ G.F p) (h : p ∈ G.al ∨ H0 p = none) : Post G0 H0 G (upd H p o) := by
  refine ⟨x.f, x.fnew, x.al, fun a u e n m => ?_, fun a u f pl r => ?_, fun a e => ?_⟩
  · have ne : a ≠ p := fun z => by
      subst z
      rcases h with h | h
      · exact x.noal e n h
      · rw [h] at e; cases e
    rw [L2.upd_ne ne]
    exact x.keep a u e n m
  · exact Rd.upd_ne (fun z => nf (z ▸ x.f a f)) (x.rd a u f pl r)
  · by_cases z : a = p
    · subst z; rw [upd_same] at e; cases e
    · rw [L2.upd_ne z] at e
      exact x.dom a e
theorem hprep_upd {hh : List PO} {p : Addr} {o : HO} (x : HpRep K G hh H) (nf : ¬ G.F p) (na : p ∉ G.al) : HpRep K G hh (upd H p o) := by
  refine ⟨fun a f e => ?_, x.nd, x.len, fun r a ob e e' => ?_⟩
  · rw [L2.upd_ne (fun z => nf (by rw [← z]; exact f))] at e
    exact x.fdom a f e
  · obtain ⟨f, u, q, rr⟩ := x.obj r a ob e e'
    exact ⟨f, u, by rw [L2.upd_ne (fun z => na (by rw [← z]; exact List.mem_of_getElem? e))]; exact q, rr.mono (ext_upd nf)⟩
/-- a new object is laid -/
theorem StRep.laid (R : StRep K E G M s H) {p : Addr} (o : HO) (hp : H p = none) : StRep K E G M s (upd H p o) ∧ Evo s G M H G M (upd H p o) ∧ E.H p = none ∧ ¬ G.F p ∧ p ∉ G.al ∧ ¬ OwnAt M.r s p := by
  have nf := R.hp.nF hp
  have na := R.hp.nAl hp
  have eh := R.post.dom p hp
  have x := ext_upd (H := H) (o := o) nf
  refine ⟨⟨post_upd R.post nf (.inr eh), hprep_upd R.hp nf na, R.len, fun i q e => ?_, fun i ob e => ?_, R.sep⟩, ⟨x, fun a u e n f ow => ⟨?_, n, f⟩, fun _ h => h, fun a e => ?_⟩, eh, nf, na, fun ⟨i, ob, e, e'⟩ => ?_⟩
  · obtain ⟨u, h1, h2⟩ := R.slot i q e
    exact ⟨u, h1, RepV.mono x _ _ h2⟩
  · obtain ⟨a, u, h1, h2, h3, h4⟩ := R.own i ob e
    exact ⟨a, u, h1, by rw [L2.upd_ne (ne_of_none h2 hp)]; exact h2, h3.mono x, h4⟩
  · rw [L2.upd_ne (ne_of_none e hp)]; exact e
  · by_cases z : a = p
    · subst z; rw [upd_same] at e; cases e
    · rwa [L2.upd_ne z] at e
  · obtain ⟨a, u, h1, h2, _⟩ := R.own i ob e
    rw [h1] at e'
    cases e'
    rw [h2] at hp; cases hp
/-- the ghosts with one more frozen address -/
def Gh.fz (G : Gh) (p : Addr) : Gh := ⟨fun a => G.F a ∨ a = p, G.al⟩
theorem Gh.ext_fz (G : Gh) (H : Hp) (p : Addr) : Ext G H (G.fz p) H := ⟨fun _ h => .inl h, fun _ _ _ _ h => h, fun _ _ h => h⟩
/-- freezing what nothing holds but a value to be -/
theorem StRep.frozen (R : StRep K E G M s H) {p : Addr} {u : HO} (hp : H p = some u) (eh : E.H p = none) (na : p ∉ G.al) (no : ¬ OwnAt M.r s p) : StRep K E (G.fz p) M s H := by
  have x := G.ext_fz H p
  refine ⟨⟨fun a h => .inl (R.post.f a h), fun a h => ?_, R.post.al, R.post.keep, R.post.rd, R.post.dom⟩, ⟨fun a h => ?_, R.hp.nd, R.hp.len, fun r a o e e' => ?_⟩, R.len, fun i q e => ?_, fun i o e => ?_, R.sep⟩
  · rcases h with h | h
    · exact R.post.fnew a h
    · exact .inr (h ▸ eh)
  · rcases h with h | h
    · exact R.hp.fdom a h
    · rw [h, hp]; intro z; cases z
  · obtain ⟨f, w, q, rr⟩ := R.hp.obj r a o e e'
    refine ⟨fun z => z.elim f fun z => na (z ▸ List.mem_of_getElem? e), w, q, rr.mono x⟩
  · obtain ⟨w, h1, h2⟩ := R.slot i q e
    exact ⟨w, h1, RepV.mono x _ _ h2⟩
  · obtain ⟨a, w, h1, h2, h3, h4, h5, h6⟩ := R.own i o e
    exact ⟨a, w, h1, h2, h3.mono x, h4, fun z => z.elim h5 fun z => no ⟨i, o, e, z ▸ h1⟩, h6⟩
theorem Evo.frozen {G0 : Gh} {M0 : Mem} {H0 : Hp} (x : Evo s G0 M0 H0 G M H) {p : Addr} (h : H0 p = none ∨ OwnAt M0.r s p) : Evo s G0 M0 H0 (G.fz p) M H := by
  refine ⟨x.ext.trans (G.ext_fz H p), fun a u e n f o => ?_, x.own, x.dom⟩
  obtain ⟨h1, h2, h3⟩ := x.keep a u e n f o
  refine ⟨h1, h2, fun z => z.elim h3 fun z => ?_⟩
  subst z
  rcases h with h | h
  · rw [h] at e; cases e
  · exact o h
/-- slots are forgotten, or told by less -/
theorem StRep.slots (R : StRep K E G M s H) {r' : List (Option LV)} (hl : r'.length = M.r.length) (h : ∀ (i : Nat) (x : LV), r'[i]? = some (some x) → M.r[i]? = some (some x) ∨ ∃ p u, x = .v p ∧ s[i]? = some (some u) ∧ RepV K G H p u) :
    StRep K E G ⟨r', M.h⟩ s H := by
  refine ⟨R.post, R.hp, hl.trans R.len, fun i q e => ?_, fun i o e => ?_, fun i j o o' a e e' => ?_⟩
  · rcases h i _ e with z | ⟨p, u, z, e1, e2⟩
    · exact R.slot i q z
    · cases z; exact ⟨u, e1, e2⟩
  · rcases h i _ e with z | ⟨p, u, z, e1, e2⟩
    · exact R.own i o z
    · cases z
  · rcases h i _ e with z | ⟨p, u, z, e1, e2⟩
    · rcases h j _ e' with z' | ⟨p', u', z', e1', e2'⟩
      · exact R.sep i j o o' a z z'
      · cases z'
    · cases z
/-- the thing of a slot is written -/
theorem StRep.wrote (R : StRep K E G M s H) {i : Nat} {o o' : PO} {a : Addr} {u' : HO} (hi : M.r[i]? = some (some (.own o))) (hs : s[i]? = some (some (.ref a))) (ho : RepO K G H o' u') :
    StRep K E G ⟨M.r.set i (some (.own o')), M.h⟩ s (upd H a u') ∧ Evo s G M H G ⟨M.r.set i (some (.own o')), M.h⟩ (upd H a u') := by
  obtain ⟨b, w, h1, h2, h3, h4, h5, h6⟩ := R.own i o hi
  have eb : b = a := by rw [hs] at h1; cases h1; rfl
  subst eb
  have x := ext_upd (H := H) (o := u') h5
  have lt : i < M.r.length := (List.getElem?_eq_some_iff.mp hi).1
  have isown : ∀ (j : Nat) (o2 : PO), (M.r.set i (some (.own o')))[j]? = some (some (.own o2)) → ∃ o3, M.r[j]? = some (some (.own o3)) := fun j o2 e => by
    by_cases z : i = j
    · subst z; exact ⟨o, hi⟩
    · rw [List.getElem?_set_ne z] at e; exact ⟨o2, e⟩
  refine ⟨⟨post_upd R.post h5 (.inr h4), hprep_upd R.hp h5 h6, by simp [R.len], fun j q e => ?_, fun j ob e => ?_, fun j k o1 o2 c e e' => ?_⟩, ⟨x, fun c v e n f ow => ⟨?_, n, f⟩, fun c ⟨j, o2, e, e'⟩ => ?_, fun c e => ?_⟩⟩
  · by_cases z : i = j
    · subst z; rw [List.getElem?_set_self lt] at e; cases e
    · rw [List.getElem?_set_ne z] at e
      obtain ⟨v, k1, k2⟩ := R.slot j q e
      exact ⟨v, k1, RepV.mono x _ _ k2⟩
  · by_cases z : i = j
    · subst z; rw [List.getElem?_set_self lt] at e; cases e
      exact ⟨b, u', hs, upd_same, ho.mono x, h4, h5, h6⟩
    · rw [List.getElem?_set_ne z] at e
      obtain ⟨c, v, k1, k2, k3, k4⟩ := R.own j ob e
      have ne : c ≠ b := fun y => z (R.sep i j o ob b hi e hs (y ▸ k1))
      exact ⟨c, v, k1, by rw [L2.upd_ne ne]; exact k2, k3.mono x, k4⟩
  · obtain ⟨o3, e3⟩ := isown j o1 e
    obtain ⟨o4, e4⟩ := isown k o2 e'
    exact R.sep j k o3 o4 c e3 e4
  · rw [L2.upd_ne (fun (z : c = b) => ow ⟨i, o, hi, by rw [z]; exact hs⟩)]; exact e
  · obtain ⟨o3, e3⟩ := isown j o2 e
    exact ⟨j, o3, e3, e'⟩
  · by_cases z : c = b
    · subst z; rw [upd_same] at e; cases e
    · rwa [L2.upd_ne z] at e
/-- a cell is written -/
theorem StRep.celled (R : StRep K E G M s H) {r : Nat} {o o' : PO} {a : Addr} {u' : HO} (hr : M.h[r]? = some o) (ha : G.al[r]? = some a) (ho : RepO K G H o' u') :
    StRep K E G ⟨M.r, M.h.set r o'⟩ s (upd H a u') ∧ Evo s G M H G ⟨M.r, M.h.set r o'⟩ (upd H a u') := by
  obtain ⟨nf, w, h1, h2⟩ := R.hp.obj r a o ha hr
  have x := ext_upd (H := H) (o := u') nf
  have am : a ∈ G.al := List.mem_of_getElem? ha
  have lt : r < M.h.length := (List.getElem?_eq_some_iff.mp hr).1
  have uniq : ∀ (j : Nat), G.al[j]? = some a → j = r := fun j e => nd_ix R.hp.nd e ha
  refine ⟨⟨post_upd R.post nf (.inl am), ⟨fun b f e => ?_, R.hp.nd, by simp [R.hp.len], fun j b ob e e' => ?_⟩, R.len, fun j q e => ?_, fun j ob e => ?_, R.sep⟩, ⟨x, fun c v e n f ow => ⟨?_, n, f⟩, fun c h => h, fun c e => ?_⟩⟩
  · rw [L2.upd_ne (fun z => nf (by rw [← z]; exact f))] at e
    exact R.hp.fdom b f e
  · by_cases z : r = j
    · subst z
      rw [ha] at e; cases e
      rw [List.getElem?_set_self lt] at e'; cases e'
      exact ⟨nf, u', upd_same, ho.mono x⟩
    · rw [List.getElem?_set_ne z] at e'
      obtain ⟨f, v, k1, k2⟩ := R.hp.obj j b ob e e'
      have ne : b ≠ a := fun y => z (uniq j (y ▸ e)).symm
      exact ⟨f, v, by rw [L2.upd_ne ne]; exact k1, k2.mono x⟩
  · obtain ⟨v, k1, k2⟩ := R.slot j q e
    exact ⟨v, k1, RepV.mono x _ _ k2⟩
  · obtain ⟨c, v, k1, k2, k3, k4, k5, k6⟩ := R.own j ob e
    have ne : c ≠ a := fun y => k6 (y ▸ am)
    exact ⟨c, v, k1, by rw [L2.upd_ne ne]; exact k2, k3.mono x, k4, k5, k6⟩
  · rw [L2.upd_ne (fun (z : c = a) => n (by rw [z]; exact am))]; exact e
  · by_cases z : c = a
    · subst z; rw [upd_same] at e; cases e
    · rwa [L2.upd_ne z] at e
end
end HF

end
section
set_option Elab.async false
set_option linter.all false
set_option maxRecDepth 20000
set_option autoImplicit false
/-! HF2: what runs give, as functions of slots and cells; the judgements; names, operators, calls of what is built in. -/
namespace HF
open PySem PySem.Spec PyProof.Rows L2

inductive Res (α : Type) where
  | ok (a : α) (M : Mem)
  | exn (c : Str) (M : Mem)
  | bad
@[simp] def Res.bnd {α β : Type} (x : Res α) (f : α → Mem → Res β) : Res β := match x with
  | .ok a M => f a M
  | .exn c M => .exn c M
  | .bad => .bad
abbrev Sm (α : Type) := Mem → Res α

section
variable (X : Cx) (E : Ent) (W : WX)
/-- what is asked of a run's end -/
def OutP {α : Type} (s : L2.St) (G : Gh) (M : Mem) (H : Hp) (r : Res α) (k : Gh → Mem → Hp → α → Prop) : Prop := match r with
  | .ok a M' => ∀ G' H', Evo s G M H G' M' H' → StRep X.K E G' M' s H' → k G' M' H' a
  | .exn c M' => ∀ G' H' C, StRep X.K E G' M' s H' → X.mg c = some (.ref C) → W (.ref C) none s H'
  | .bad => False
def tE (f : Sm EV) : TE := fun s H Q => ∃ G M, StRep X.K E G M s H ∧ OutP X E W s G M H (f M) fun G' M' H' ev => ∀ u, RepE X.K E H G' M' s H' ev u → Q u H'
def tP (f : Sm PV) : TE := fun s H Q => ∃ G M, StRep X.K E G M s H ∧ OutP X E W s G M H (f M) fun G' _ H' p => ∀ u, RepV X.K G' H' p u → Q u H'
def tB' (f : Sm Bool) : TT := fun s H Q => ∃ G M, StRep X.K E G M s H ∧ OutP X E W s G M H (f M) fun _ _ H' b => Q b H'
def tL (f : Sm (List PV)) : TA := fun s H Q => ∃ G M, StRep X.K E G M s H ∧ OutP X E W s G M H (f M) fun G' _ H' ps => ∀ us, RepVs X.K G' H' ps us → Q us H'
structure FE (e : Expr) (f : Sm EV) : Prop where
  pe : PE X e (tE X E W f)
structure FP (e : Expr) (f : Sm PV) : Prop where
  pe : PE X e (tP X E W f)
structure FT (e : Expr) (f : Sm Bool) : Prop where
  pe : PT X e (tB' X E W f)
structure FW (e : Expr) (f : Sm Bool) : Prop where
  pe : PW X e (tB' X E W f)
structure FA (es : List Expr) (f : Sm (List PV)) : Prop where
  pe : PA X es (tL X E W f)
end
section
variable {X : Cx} {E : Ent} {W : WX}
theorem OutP.imp {α : Type} {s : L2.St} {G : Gh} {M : Mem} {H : Hp} {r : Res α} {k k' : Gh → Mem → Hp → α → Prop} (h : OutP X E W s G M H r k)
    (i : ∀ G' M' H' a, Evo s G M H G' M' H' → StRep X.K E G' M' s H' → k G' M' H' a → k' G' M' H' a) : OutP X E W s G M H r k' := by
  cases r with
  | ok a M' => exact fun G' H' V R => i G' M' H' a V R (h G' H' V R)
  | exn c M' => exact h
  | bad => exact h
/-- two runs in a row -/
theorem OutP.bnd {α β : Type} {s : L2.St} {G : Gh} {M : Mem} {H : Hp} {r : Res α} {f : α → Mem → Res β} {k : Gh → Mem → Hp → β → Prop} (h : OutP X E W s G M H (r.bnd f) k) :
    OutP X E W s G M H r fun G1 M1 H1 a => OutP X E W s G1 M1 H1 (f a M1) k := by
  cases r with
  | ok a M' =>
    intro G1 H1 V1 R1
    have h : OutP X E W s G M H (f a M') k := h
    show OutP X E W s G1 M' H1 (f a M') k
    generalize f a M' = q at h
    cases q with
    | ok b M2 => exact fun G2 H2 V2 R2 => h G2 H2 (V1.trans V2) R2
    | exn c M2 => exact h
    | bad => exact h
  | exn c M' => exact h
  | bad => exact h
theorem PE.weak {e : Expr} {t t' : TE} (h : PE X e t) (i : ∀ s H Q, t' s H Q → t s H Q) : PE X e t' := ⟨fun pins s σ H Q I q => h.run pins s σ H Q I (i _ _ _ q)⟩
theorem PT.weak {e : Expr} {t t' : TT} (h : PT X e t) (i : ∀ s H Q, t' s H Q → t s H Q) : PT X e t' := ⟨fun pins s σ H Q I q => h.run pins s σ H Q I (i _ _ _ q)⟩
theorem PW.weak {e : Expr} {t t' : TT} (h : PW X e t) (i : ∀ s H Q, t' s H Q → t s H Q) : PW X e t' := ⟨fun w pins s σ H Q I q => h.run w pins s σ H Q I (i _ _ _ q)⟩
theorem PA.weak {e : List Expr} {t t' : TA} (h : PA X e t) (i : ∀ s H Q, t' s H Q → t s H Q) : PA X e t' := ⟨fun p pins s σ H Q I q => h.run p pins s σ H Q I (i _ _ _ q)⟩
theorem PS.weak {e : Stmt} {t t' : TS} (h : PS X e t) (i : ∀ D s H, t' D s H → t D s H) : PS X e t' := ⟨fun pins s σ H D I q => h.run pins s σ H D I (i _ _ _ q)⟩
theorem PSs.weak {e : List Stmt} {t t' : TS} (h : PSs X e t) (i : ∀ D s H, t' D s H → t D s H) : PSs X e t' := ⟨fun pins s σ H D I q => h.run pins s σ H D I (i _ _ _ q)⟩

/-! ### one, two operands -/
/-- after a first operand -/
theorem tE_one {f : Sm EV} {β : Type} {g : EV → Mem → Res β} {s : L2.St} {G : Gh} {M : Mem} {H : Hp} {k : Gh → Mem → Hp → β → Prop} {Q : V → Hp → Prop} (R : StRep X.K E G M s H) (h : OutP X E W s G M H ((f M).bnd g) k)
    (i : ∀ G1 M1 H1 a u, Evo s G M H G1 M1 H1 → StRep X.K E G1 M1 s H1 → RepE X.K E H G1 M1 s H1 a u → OutP X E W s G1 M1 H1 (g a M1) k → Q u H1) : tE X E W f s H Q :=
  ⟨G, M, R, h.bnd.imp fun G1 M1 H1 a V1 R1 q u ru => i G1 M1 H1 a u V1 R1 ru q⟩
theorem tP_one {f : Sm PV} {β : Type} {g : PV → Mem → Res β} {s : L2.St} {G : Gh} {M : Mem} {H : Hp} {k : Gh → Mem → Hp → β → Prop} {Q : V → Hp → Prop} (R : StRep X.K E G M s H) (h : OutP X E W s G M H ((f M).bnd g) k)
    (i : ∀ G1 M1 H1 a u, Evo s G M H G1 M1 H1 → StRep X.K E G1 M1 s H1 → RepV X.K G1 H1 a u → OutP X E W s G1 M1 H1 (g a M1) k → Q u H1) : tP X E W f s H Q :=
  ⟨G, M, R, h.bnd.imp fun G1 M1 H1 a V1 R1 q u ru => i G1 M1 H1 a u V1 R1 ru q⟩
theorem tL_one {f : Sm (List PV)} {β : Type} {g : List PV → Mem → Res β} {s : L2.St} {G : Gh} {M : Mem} {H : Hp} {k : Gh → Mem → Hp → β → Prop} {Q : List V → Hp → Prop} (R : StRep X.K E G M s H) (h : OutP X E W s G M H ((f M).bnd g) k)
    (i : ∀ G1 M1 H1 a u, Evo s G M H G1 M1 H1 → StRep X.K E G1 M1 s H1 → RepVs X.K G1 H1 a u → OutP X E W s G1 M1 H1 (g a M1) k → Q u H1) : tL X E W f s H Q :=
  ⟨G, M, R, h.bnd.imp fun G1 M1 H1 a V1 R1 q u ru => i G1 M1 H1 a u V1 R1 ru q⟩
theorem tB_one {f : Sm Bool} {β : Type} {g : Bool → Mem → Res β} {s : L2.St} {G : Gh} {M : Mem} {H : Hp} {k : Gh → Mem → Hp → β → Prop} {Q : Bool → Hp → Prop} (R : StRep X.K E G M s H) (h : OutP X E W s G M H ((f M).bnd g) k)
    (i : ∀ G1 M1 H1 a, Evo s G M H G1 M1 H1 → StRep X.K E G1 M1 s H1 → OutP X E W s G1 M1 H1 (g a M1) k → Q a H1) : tB' X E W f s H Q :=
  ⟨G, M, R, h.bnd.imp fun G1 M1 H1 a V1 R1 q => i G1 M1 H1 a V1 R1 q⟩
/-- an end at once -/
theorem OutP.now {α : Type} {s : L2.St} {G : Gh} {M : Mem} {H : Hp} {a : α} {k : Gh → Mem → Hp → α → Prop} (h : OutP X E W s G M H (.ok a M) k) (R : StRep X.K E G M s H) : k G M H a := h G H (Evo.refl _ _ _ _) R

/-! ### what things hold -/
@[simp] def cellAt (M : Mem) (r : Nat) : Option PO := M.h[r]?
@[simp] def slotAt (M : Mem) (i : Nat) : Option LV := match M.r[i]? with
  | some (some x) => some x
  | _ => none
/-- the list, where it is one -/
@[simp] def asLst (M : Mem) : EV → Option (List PV)
  | .v (.lst xs) => some xs
  | .v (.rol xs) => some xs
  | .v (.ref r) => match cellAt M r with
    | some (.lst xs) => some xs
    | _ => none
  | .fr (.lst xs) => some xs
  | .sl i => match slotAt M i with
    | some (.own (.lst xs)) => some xs
    | _ => none
  | _ => none
@[simp] def asDct (M : Mem) : EV → Option (List Key × List PV)
  | .v (.dct ks xs) => some (ks, xs)
  | .v (.ref r) => match cellAt M r with
    | some (.dct ks xs) => some (ks, xs)
    | _ => none
  | .fr (.dct ks xs) => some (ks, xs)
  | .sl i => match slotAt M i with
    | some (.own (.dct ks xs)) => some (ks, xs)
    | _ => none
  | _ => none
section
variable {K : PySem.W.Frag} {G : Gh} {M : Mem} {s : L2.St} {H H0 : Hp}
theorem slotAt_some {i : Nat} {x : LV} (h : slotAt M i = some x) : M.r[i]? = some (some x) := by
  unfold slotAt at h
  split at h
  · rename_i e; cases h; exact e
  · cases h
theorem RepO.lst_iff {xs : List PV} {o : HO} : RepO K G H (.lst xs) o ↔ ∃ us, o = .lst us ∧ us.length ≤ sizeLine ∧ RepVs K G H xs us := Iff.rfl
theorem StRep.cell (R : StRep K E G M s H) {r : Nat} {o : PO} {a : Addr} (h : cellAt M r = some o) (ha : G.al[r]? = some a) : ∃ u, H a = some u ∧ RepO K G H o u := (R.hp.obj r a o ha h).2
/-- a list that may be read -/
theorem lst_of (R : StRep K E G M s H) {e : EV} {u : V} {xs : List PV} (r : RepE K E H0 G M s H e u) (h : asLst M e = some xs) :
    ∃ a us, u = .ref a ∧ SqL K H a us ∧ RepVs K G H xs us ∧ us.length ≤ sizeLine := by
  cases e with
  | v p =>
    cases p with
    | lst ys =>
      cases h
      have r : RepV K G H (.lst xs) u := r
      simp only [RepV] at r
      obtain ⟨a, us, e, ⟨f0, f1, f2⟩, q⟩ := r
      exact ⟨a, us, e, .inl f2, q, f0⟩
    | rol ys =>
      cases h
      have r : RepV K G H (.rol xs) u := r
      simp only [RepV] at r
      obtain ⟨a, us, e, f, q⟩ := r
      exact ⟨a, us, e, f.sq, q, f.1⟩
    | ref c =>
      have r : RepV K G H (.ref c) u := r
      simp only [RepV] at r
      obtain ⟨a, e, q⟩ := r
      simp only [asLst] at h
      split at h
      · rename_i ec
        cases h
        obtain ⟨w, h1, us, rfl, z, rr⟩ := R.cell ec q
        exact ⟨a, us, e, SqL.of h1, rr, z⟩
      · cases h
    | non => cases h
    | bl b => cases h
    | int b => cases h
    | str b => cases h
    | tup b => cases h
    | dct b c => cases h
    | con b => cases h
  | fr o =>
    cases o with
    | lst ys =>
      cases h
      obtain ⟨a, w, e, h1, ⟨us, rfl, z, rr⟩, _⟩ := r
      exact ⟨a, us, e, SqL.of h1, rr, z⟩
    | dct b c => cases h
    | ins b c d => cases h
  | sl i =>
    simp only [asLst] at h
    split at h
    · rename_i ec
      cases h
      obtain ⟨a, w, e, h1, ⟨us, rfl, z, rr⟩, _⟩ := R.own i _ (slotAt_some ec)
      have r : s[i]? = some (some u) := r
      rw [e] at r
      cases r
      exact ⟨a, us, rfl, SqL.of h1, rr, z⟩
    · cases h
@[simp] def asLstR (M : Mem) : EV → Option (List PV)
  | .v (.rol _) => none
  | e => asLst M e
theorem asLstR_as {M : Mem} {e : EV} {xs : List PV} (h : asLstR M e = some xs) : asLst M e = some xs := by
  unfold asLstR at h
  split at h
  · cases h
  · exact h
theorem lstR_of (R : StRep K E G M s H) {e : EV} {u : V} {xs : List PV} (r : RepE K E H0 G M s H e u) (h : asLstR M e = some xs) :
    ∃ a us, u = .ref a ∧ Rd H a (.lst us) ∧ RepVs K G H xs us ∧ us.length ≤ sizeLine := by
  cases e with
  | v p =>
    cases p with
    | lst ys =>
      cases h
      have r : RepV K G H (.lst xs) u := r
      simp only [RepV] at r
      obtain ⟨a, us, e, ⟨f0, f1, f2⟩, q⟩ := r
      exact ⟨a, us, e, f2, q, f0⟩
    | ref c =>
      have r : RepV K G H (.ref c) u := r
      simp only [RepV] at r
      obtain ⟨a, e, q⟩ := r
      simp only [asLstR, asLst] at h
      split at h
      · rename_i ec
        cases h
        obtain ⟨w, h1, us, rfl, z, rr⟩ := R.cell ec q
        exact ⟨a, us, e, .inl h1, rr, z⟩
      · cases h
    | non => cases h
    | bl b => cases h
    | int b => cases h
    | str b => cases h
    | tup b => cases h
    | dct b c => cases h
    | con b => cases h
    | rol b => cases h
  | fr o =>
    cases o with
    | lst ys =>
      cases h
      obtain ⟨a, w, e, h1, ⟨us, rfl, z, rr⟩, _⟩ := r
      exact ⟨a, us, e, .inl h1, rr, z⟩
    | dct b c => cases h
    | ins b c d => cases h
  | sl i =>
    simp only [asLstR, asLst] at h
    split at h
    · rename_i ec
      cases h
      obtain ⟨a, w, e, h1, ⟨us, rfl, z, rr⟩, _⟩ := R.own i _ (slotAt_some ec)
      have r : s[i]? = some (some u) := r
      rw [e] at r
      cases r
      exact ⟨a, us, rfl, .inl h1, rr, z⟩
    · cases h
theorem tup_of {p : List PV} {u : V} (r : RepV K G H (.tup p) u) : ∃ a us, u = .ref a ∧ SqT K H a us ∧ RepVs K G H p us ∧ us.length ≤ sizeLine := by
  simp only [RepV] at r
  obtain ⟨a, us, e, f, q⟩ := r
  exact ⟨a, us, e, f.sq, q, f.1⟩
theorem dct_of (R : StRep K E G M s H) {e : EV} {u : V} {ks : List Key} {xs : List PV} (r : RepE K E H0 G M s H e u) (h : asDct M e = some (ks, xs)) :
    ∃ a kvs, u = .ref a ∧ Rd H a (.dK kvs) ∧ kvs.map (·.1) = ks ∧ RepVs K G H xs (kvs.map (·.2)) ∧ kvs.length ≤ sizeLine := by
  cases e with
  | v p =>
    cases p with
    | dct ys zs =>
      cases h
      have r : RepV K G H (.dct ks xs) u := r
      simp only [RepV] at r
      obtain ⟨a, us, e, ⟨_, f⟩, z, q, rr⟩ := r
      exact ⟨a, us, e, f, q, rr, z⟩
    | ref c =>
      have r : RepV K G H (.ref c) u := r
      simp only [RepV] at r
      obtain ⟨a, e, q⟩ := r
      simp only [asDct] at h
      split at h
      · rename_i ec
        cases h
        obtain ⟨w, h1, us, rfl, z, k, rr⟩ := R.cell ec q
        exact ⟨a, us, e, .inl h1, k, rr, z⟩
      · cases h
    | non => cases h
    | bl b => cases h
    | int b => cases h
    | str b => cases h
    | tup b => cases h
    | lst c => cases h
    | con b => cases h
    | rol c => cases h
  | fr o =>
    cases o with
    | dct ys zs =>
      cases h
      obtain ⟨a, w, e, h1, ⟨us, rfl, z, k, rr⟩, _⟩ := r
      exact ⟨a, us, e, .inl h1, k, rr, z⟩
    | lst c => cases h
    | ins b c d => cases h
  | sl i =>
    simp only [asDct] at h
    split at h
    · rename_i ec
      cases h
      obtain ⟨a, w, e, h1, ⟨us, rfl, z, k, rr⟩, _⟩ := R.own i _ (slotAt_some ec)
      have r : s[i]? = some (some u) := r
      rw [e] at r
      cases r
      exact ⟨a, us, rfl, .inl h1, k, rr, z⟩
    · cases h
end

/-! ### a thing becomes a value -/
@[simp] def poV : PO → Option PV
  | .lst xs => some (.lst xs)
  | .dct ks xs => some (.dct ks xs)
  | .ins _ _ _ => none
@[simp] def toP1 (e : EV) (M : Mem) : Res PV := match e with
  | .v p => .ok p M
  | .fr o => match poV o with
    | some p => .ok p M
    | none => .bad
  | .sl i => match slotAt M i with
    | some (.own o) => match poV o with
      | some p => .ok p ⟨M.r.set i (some (.v p)), M.h⟩
      | none => .bad
    | _ => .bad
@[simp] def toP (f : Sm EV) : Sm PV := fun M => (f M).bnd toP1
theorem poV_rep {K : PySem.W.Frag} {G : Gh} {H : Hp} {o : PO} {p : PV} {w : HO} {a : Addr} (h : poV o = some p) (r : RepO K G H o w) (ha : H a = some w) : RepV K (G.fz a) H p (.ref a) := by
  have x := G.ext_fz H a
  cases o with
  | lst xs =>
    cases h
    obtain ⟨us, rfl, z, rr⟩ := r
    simp only [RepV]
    exact ⟨a, us, rfl, ⟨z, .inr rfl, .inl ha⟩, RepVs.mono x _ _ rr⟩
  | dct ks xs =>
    cases h
    obtain ⟨us, rfl, z, k, rr⟩ := r
    simp only [RepV]
    exact ⟨a, us, rfl, ⟨.inr rfl, .inl ha⟩, z, k, RepVs.mono x _ _ rr⟩
  | ins C ns xs => cases h
/-- the end of toP1, seen from the run's beginning -/
theorem OutP.toP1 {s : L2.St} {G G1 : Gh} {M M1 : Mem} {H H1 : Hp} {e : EV} {u : V} {k : Gh → Mem → Hp → PV → Prop} (V1 : Evo s G M H G1 M1 H1) (R1 : StRep X.K E G1 M1 s H1) (r : RepE X.K E H G1 M1 s H1 e u)
    (h : OutP X E W s G M H (HF.toP1 e M1) k) : ∃ G2 M2 p, Evo s G M H G2 M2 H1 ∧ StRep X.K E G2 M2 s H1 ∧ RepV X.K G2 H1 p u ∧ k G2 M2 H1 p := by
  cases e with
  | v p => exact ⟨G1, M1, p, V1, R1, r, h G1 H1 V1 R1⟩
  | fr o =>
    obtain ⟨a, w, rfl, h1, ro, n, nf, nl, no, z⟩ := r
    simp only [HF.toP1] at h
    split at h
    · rename_i p ep
      have R2 := R1.frozen h1 n nl no
      have V2 := V1.frozen (p := a) (.inl z)
      exact ⟨G1.fz a, M1, p, V2, R2, poV_rep ep ro h1, h _ _ V2 R2⟩
    · exact False.elim h
  | sl i =>
    simp only [HF.toP1] at h
    split at h
    · rename_i o eo
      split at h
      · rename_i p ep
        have ei := slotAt_some eo
        obtain ⟨a, w, e, h1, ro, n, nf, nl⟩ := R1.own i o ei
        have r : s[i]? = some (some u) := r
        rw [e] at r
        cases r
        have ow : OwnAt M.r s a := V1.own a ⟨i, o, ei, e⟩
        have lt : i < M1.r.length := (List.getElem?_eq_some_iff.mp ei).1
        have rv := poV_rep ep ro h1
        -- the slot first forgets, then the address is frozen, then the slot has the value
        have Rf : StRep X.K E G1 ⟨M1.r.set i none, M1.h⟩ s H1 := R1.slots (by simp) fun j x ej => by
          by_cases zj : i = j
          · subst zj; rw [List.getElem?_set_self lt] at ej; cases ej
          · rw [List.getElem?_set_ne zj] at ej; exact .inl ej
        have nof : ¬ OwnAt (M1.r.set i none) s a := fun ⟨j, o2, e1, e2⟩ => by
          by_cases zj : i = j
          · subst zj; rw [List.getElem?_set_self lt] at e1; cases e1
          · rw [List.getElem?_set_ne zj] at e1
            exact zj (R1.sep i j o o2 a ei e1 e e2)
        have Rz := Rf.frozen h1 n nl nof
        have R2 : StRep X.K E (G1.fz a) ⟨M1.r.set i (some (.v p)), M1.h⟩ s H1 := Rz.slots (r' := M1.r.set i (some (.v p))) (by simp) fun j x ej => by
          by_cases zj : i = j
          · subst zj; rw [List.getElem?_set_self lt] at ej; cases ej
            exact .inr ⟨p, .ref a, rfl, e, rv⟩
          · rw [List.getElem?_set_ne zj] at ej
            exact .inl (by show (M1.r.set i none)[j]? = _; rw [List.getElem?_set_ne zj]; exact ej)
        have V2 : Evo s G M H (G1.fz a) ⟨M1.r.set i (some (.v p)), M1.h⟩ H1 := by
          have V3 := V1.frozen (p := a) (.inr ow)
          refine ⟨V3.ext, V3.keep, fun b ⟨j, o2, e1, e2⟩ => V1.own b ?_, V3.dom⟩
          by_cases zj : i = j
          · subst zj; rw [List.getElem?_set_self lt] at e1; cases e1
          · rw [List.getElem?_set_ne zj] at e1; exact ⟨j, o2, e1, e2⟩
        exact ⟨_, _, p, V2, R2, rv, h _ _ V2 R2⟩
      · exact False.elim h
    · exact False.elim h
theorem FE.toP {e : Expr} {f : Sm EV} (h : FE X E W e f) : FP X E W e (HF.toP f) := by
  refine ⟨PE.weak h.pe ?_⟩
  rintro s H Q ⟨G, M, R, h⟩
  refine ⟨G, M, R, ?_⟩
  simp only [HF.toP] at h
  generalize f M = q at h
  cases q with
  | ok ev M1 =>
    intro G1 H1 V1 R1 u ru
    obtain ⟨G2, M2, p, _, _, rv, q⟩ := OutP.toP1 V1 R1 ru (k := fun G' _ H' p => ∀ u, RepV X.K G' H' p u → Q u H') h
    exact q u rv
  | exn c M1 => exact h
  | bad => exact h
end
end HF

end
section
set_option Elab.async false
set_option linter.all false
set_option maxRecDepth 20000
set_option autoImplicit false
/-! HF3: names, constants, operators, comparisons, and, or, not, displays, subscripts, slices. -/
namespace HF
open PySem PySem.Spec PyProof.Rows L2

/-- what is known of the place where code runs -/
structure Wd where
  P : Program
  w : World
  K : PySem.W.Frag
  mg : Str → Option Value
  base : Heap
structure Amb (Z : Wd) (X : Cx) (W : WX) (N : List Str) (sc : Scope) (fs : Str → Bool) (k : Nat) : Prop where
  hN : X.N = N
  fn : X.fn = fs
  same : X.prog = Z.P ∧ X.w = Z.w ∧ X.K = Z.K ∧ X.mg = Z.mg ∧ X.base = Z.base
  hs : X.env.scope = sc
  nd : N.Nodup
  calm : X.calm = true
  room : Room k X.A
  tk : Takes X W
  po : PassesOwn (model X.prog X.w) X.A X.env X.xe
def visB (sc : Scope) (x : Str) : Bool := match sc.names.lookup x with
  | some .local => true
  | some .cell => true
  | some .free => true
  | _ => false
theorem vis_of {sc : Scope} {x : Str} (h : visB sc x = true) : Vis sc x := by
  unfold visB at h
  split at h
  · rename_i e; exact .inl e
  · rename_i e; exact .inr (.inl e)
  · rename_i e; exact .inr (.inr e)
  · cases h
section
variable {X : Cx} {E : Ent} {W : WX} {N : List Str} {sc : Scope} {fs : Str → Bool} {k : Nat} {Z : Wd}
theorem Amb.u64 (A : Amb Z X W N sc fs k) : X.A.units + 64 < cLine := A.room.units
theorem Amb.u65 (A : Amb Z X W N sc fs k) : X.A.units + 65 < cLine := by have := A.room.un; omega
theorem Amb.u1 (A : Amb Z X W N sc fs k) : X.A.units + 1 < cLine := by have := A.room.un; omega
theorem Amb.gl (A : Amb Z X W N sc fs k) {x : Str} (h : sc.names.lookup x = some .globalImplicit) : Gl X x := by
  show X.env.scope.names.lookup x = _
  rw [A.hs]; exact h

/-! ### names and constants -/
@[simp] def eVar (i : Nat) : Sm EV := fun M => match slotAt M i with
  | some (.v p) => .ok (.v p) M
  | some (.own _) => .ok (.sl i) M
  | none => .bad
theorem fe_var (A : Amb Z X W N sc fs k) {i : Nat} {x : Str} {pos : Pos} (hN : N[i]? = some x) (hv : visB sc x = true) (hd : (x == ("__debug__" : Str)) = false := by decide) (hcd : (x == ("__classdict__" : Str)) = false := by decide) : FE X E W (.Name x pos) (eVar i) := by
  refine ⟨PE.weak (pe_var (i := i) (by rw [A.hN]; exact hN) (by rw [A.hs]; exact vis_of hv) hd hcd) ?_⟩
  rintro s H Q ⟨G, M, R, h⟩
  simp only [eVar] at h
  split at h
  · rename_i p e
    obtain ⟨u, e1, r⟩ := R.slot i p (slotAt_some e)
    exact ⟨u, e1, h.now R u r⟩
  · rename_i o e
    obtain ⟨a, u, e1, h1, _⟩ := R.own i o (slotAt_some e)
    exact ⟨.ref a, e1, h.now R (.ref a) e1⟩
  · exact False.elim h
@[simp] def eC (p : PV) : Sm EV := fun M => .ok (.v p) M
theorem fe_const {e : Expr} {v : V} {p : PV} (h : PE X e (tC v)) (r : ∀ G H, RepV X.K G H p v) : FE X E W e (eC p) := by
  refine ⟨PE.weak h ?_⟩
  rintro s H Q ⟨G, M, R, h⟩
  exact h.now R v (r G H)
theorem fe_int {i : Int} {j pos} : FE X E W (.Constant (.int i) j pos) (eC (.int i)) := fe_const pe_int fun _ _ => by simp only [RepV]
theorem fe_bl {b : Bool} {j pos} : FE X E W (.Constant (.bool b) j pos) (eC (.bl b)) := fe_const pe_bl fun _ _ => by simp only [RepV]
theorem fe_non {j pos} : FE X E W (.Constant .none j pos) (eC .non) := fe_const pe_non fun _ _ => by simp only [RepV]
theorem fe_str {x : Str} {j pos} : FE X E W (.Constant (.str x) j pos) (eC (.str x)) := fe_const pe_str fun _ _ => by simp only [RepV]
/-- a text of the module -/
theorem fe_gstr (A : Amb Z X W N sc fs k) {x y : Str} {t : Tok} {pos : Pos} (hm : X.mg x = some (.str y t)) (hg : sc.names.lookup x = some .globalImplicit := by rfl) (hd : (x == ("__debug__" : Str)) = false := by decide) : FE X E W (.Name x pos) (eC (.str y)) :=
  fe_const (v := .str y) (pe_glob (A.gl hg) hm ⟨t, rfl⟩ hd) fun _ _ => by simp only [RepV]
theorem fe_gint (A : Amb Z X W N sc fs k) {x : Str} {y : Int} {t : Tok} {pos : Pos} (hm : X.mg x = some (.int y t)) (hg : sc.names.lookup x = some .globalImplicit := by rfl) (hd : (x == ("__debug__" : Str)) = false := by decide) : FE X E W (.Name x pos) (eC (.int y)) :=
  fe_const (v := .int y) (pe_glob (A.gl hg) hm ⟨t, rfl⟩ hd) fun _ _ => by simp only [RepV]

/-! ### two operands -/
abbrev Op2 := EV → EV → Mem → Option EV
@[simp] def optR {α : Type} (x : Option α) (M : Mem) : Res α := match x with
  | some a => .ok a M
  | none => .bad
@[simp] def e2 (op : Op2) (f g : Sm EV) : Sm EV := fun M => (f M).bnd fun x M1 => (g M1).bnd fun y M2 => optR (op x y M2) M2
def Op2Ok (X : Cx) (r : R2) (op : Op2) : Prop := ∀ (E : Ent) (s : L2.St) (G : Gh) (M : Mem) (H H0 : Hp) (x y : EV) (u v : V) (ev : EV) (Q : VK), StRep X.K E G M s H → (∀ a, H a = none → H0 a = none) →
  RepE X.K E H0 G M s H x u → RepE X.K E H0 G M s H y v → op x y M = some ev → (∀ G' H' w, Evo s G M H G' M H' → StRep X.K E G' M s H' → RepE X.K E H0 G' M s H' ev w → Q w H') → r u v H Q
theorem tE_two {f g : Sm EV} {r : R2} {op : Op2} (ok : Op2Ok X r op) {s : L2.St} {H : Hp} {Q : VK} (h : tE X E W (e2 op f g) s H Q) : tOp r (tE X E W f) (tE X E W g) s H Q := by
  obtain ⟨G, M, R, h⟩ := h
  refine tE_one R h fun G1 M1 H1 x u V1 R1 rx h1 => ?_
  refine tE_one R1 h1 fun G2 M2 H2 y v V2 R2 ry h2 => ?_
  have V := V1.trans V2
  simp only [optR] at h2
  split at h2
  · rename_i ev eo
    refine ok E s G2 M2 H2 H x y u v ev Q R2 V.dom (rx.evo V2) (ry.old V1.dom) eo fun G' H' w V3 R3 rw' => ?_
    exact h2 G' H' V3 R3 w (rw'.old fun _ z => z)
  · exact False.elim h2
section
variable {a b : Expr} {f g : Sm EV} {pos : Pos}
theorem fe_bin {op : Operator} {r : R2} {o : Op2} (ho : OpR X (binaryOp op) r) (k : Op2Ok X r o) (ha : FE X E W a f) (hb : FE X E W b g) : FE X E W (.BinOp a op b pos) (e2 o f g) :=
  ⟨PE.weak (pe_op ho ha.pe hb.pe) fun _ _ _ h => tE_two k h⟩
end
theorem Op2Ok.or {r r' : R2} {o o' : Op2} (h : Op2Ok X r o) (h' : Op2Ok X r' o') : Op2Ok X (fun x y H Q => r x y H Q ∨ r' x y H Q) (fun x y M => (o x y M).or (o' x y M)) := by
  intro E s G M H H0 x y u v ev Q R d rx ry e q
  simp only at e
  cases e1 : o x y M with
  | some w =>
    rw [e1] at e
    cases e
    exact .inl (h E s G M H H0 x y u v _ Q R d rx ry e1 q)
  | none =>
    rw [e1] at e
    exact .inr (h' E s G M H H0 x y u v ev Q R d rx ry e q)
theorem repE_int {E : Ent} {H0 : Hp} {G : Gh} {M : Mem} {s : L2.St} {H : Hp} {i : Int} {u : V} (h : RepE X.K E H0 G M s H (.v (.int i)) u) : u = .int i := by
  have h : RepV X.K G H (.int i) u := h
  simpa only [RepV] using h
theorem repE_str {E : Ent} {H0 : Hp} {G : Gh} {M : Mem} {s : L2.St} {H : Hp} {i : Str} {u : V} (h : RepE X.K E H0 G M s H (.v (.str i)) u) : u = .str i := by
  have h : RepV X.K G H (.str i) u := h
  simpa only [RepV] using h
theorem repE_bl {E : Ent} {H0 : Hp} {G : Gh} {M : Mem} {s : L2.St} {H : Hp} {i : Bool} {u : V} (h : RepE X.K E H0 G M s H (.v (.bl i)) u) : u = .bl i := by
  have h : RepV X.K G H (.bl i) u := h
  simpa only [RepV] using h
theorem repE_tup {E : Ent} {H0 : Hp} {G : Gh} {M : Mem} {s : L2.St} {H : Hp} {p : List PV} {u : V} (h : RepE X.K E H0 G M s H (.v (.tup p)) u) : ∃ a us, u = .ref a ∧ SqT X.K H a us ∧ RepVs X.K G H p us ∧ us.length ≤ sizeLine := tup_of h
/-- two ints to an int -/
@[simp] def opI2 (c : Int → Int → Bool) (f : Int → Int → Int) : Op2 := fun x y _ => match x, y with
  | .v (.int i), .v (.int j) => if c i j then some (.v (.int (f i j))) else none
  | _, _ => none
theorem opI2_ok {C : Int → Int → Prop} {c : Int → Int → Bool} {f : Int → Int → Int} (hc : ∀ i j, c i j = true → C i j) : Op2Ok X (rI C fun i j => .int (f i j)) (opI2 c f) := by
  intro E s G M H H0 x y u v ev Q R d rx ry e q
  simp only [opI2] at e
  split at e
  · split at e
    · rename_i i j z
      cases e
      exact ⟨i, j, repE_int rx, repE_int ry, hc i j z, q G H _ (Evo.refl _ _ _ _) R (show RepV X.K G H (.int (f i j)) _ by simp only [RepV])⟩
    · cases e
  · cases e
@[simp] def opI2' (f : Int → Int → Int) : Op2 := fun x y _ => match x, y with
  | .v (.int i), .v (.int j) => some (.v (.int (f i j)))
  | _, _ => none
theorem opI2'_ok {f : Int → Int → Int} : Op2Ok X (rI0 fun i j => .int (f i j)) (opI2' f) := by
  intro E s G M H H0 x y u v ev Q R d rx ry e q
  simp only [opI2'] at e
  split at e
  · rename_i i j
    cases e
    exact ⟨i, j, repE_int rx, repE_int ry, q G H _ (Evo.refl _ _ _ _) R (show RepV X.K G H (.int (f i j)) _ by simp only [RepV])⟩
  · cases e
@[simp] def opStrCat : Op2 := fun x y _ => match x, y with
  | .v (.str i), .v (.str j) => if i.length + j.length ≤ sizeLine then some (.v (.str (i ++ j))) else none
  | _, _ => none
@[simp] def opTupCat : Op2 := fun x y _ => match x, y with
  | .v (.tup i), .v (.tup j) => if i.length + j.length ≤ sizeLine then some (.v (.tup (i ++ j))) else none
  | _, _ => none
@[simp] def opLstCat : Op2 := fun x y M => match asLstR M x, asLstR M y with
  | some i, some j => if i.length + j.length ≤ sizeLine then some (.fr (.lst (i ++ j))) else none
  | _, _ => none
theorem opStrCat_ok : Op2Ok X (fun x y H Q => ∃ i j, x = .str i ∧ y = .str j ∧ i.length + j.length ≤ sizeLine ∧ Q (.str (i ++ j)) H) opStrCat := by
  intro E s G M H H0 x y u v ev Q R d rx ry e q
  simp only [opStrCat] at e
  split at e
  · rename_i i j
    split at e
    · rename_i z
      cases e
      exact ⟨i, j, repE_str rx, repE_str ry, z, q G H _ (Evo.refl _ _ _ _) R (show RepV X.K G H (.str (i ++ j)) _ by simp only [RepV])⟩
    · cases e
  · cases e
/-- a new tuple -/
theorem rep_newtup {E : Ent} {s : L2.St} {G : Gh} {M : Mem} {H : Hp} {ps : List PV} {us : List V} (R : StRep X.K E G M s H) (r : RepVs X.K G H ps us) (z : us.length ≤ sizeLine) {p : Addr} (hp : H p = none) :
    Evo s G M H (G.fz p) M (upd H p (.tup us)) ∧ StRep X.K E (G.fz p) M s (upd H p (.tup us)) ∧ RepV X.K (G.fz p) (upd H p (.tup us)) (.tup ps) (.ref p) := by
  obtain ⟨R1, V1, eh, nf, na, no⟩ := R.laid (.tup us) hp
  refine ⟨V1.frozen (.inl hp), R1.frozen upd_same eh na no, ?_⟩
  simp only [RepV]
  exact ⟨p, us, rfl, ⟨z, .inl ⟨.inr rfl, .inl upd_same⟩⟩, RepVs.mono (V1.ext.trans (G.ext_fz _ p)) _ _ r⟩
/-- a new list -/
theorem rep_newlst {E : Ent} {s : L2.St} {G : Gh} {M : Mem} {H H0 : Hp} {ps : List PV} {us : List V} (R : StRep X.K E G M s H) (d : ∀ a, H a = none → H0 a = none) (r : RepVs X.K G H ps us) (z : us.length ≤ sizeLine) {p : Addr} (hp : H p = none) :
    Evo s G M H G M (upd H p (.lst us)) ∧ StRep X.K E G M s (upd H p (.lst us)) ∧ RepE X.K E H0 G M s (upd H p (.lst us)) (.fr (.lst ps)) (.ref p) := by
  obtain ⟨R1, V1, eh, nf, na, no⟩ := R.laid (.lst us) hp
  exact ⟨V1, R1, p, _, rfl, upd_same, ⟨us, rfl, z, RepVs.mono V1.ext _ _ r⟩, eh, nf, na, no, d p hp⟩
end
end HF

end
section
set_option Elab.async false
set_option linter.all false
set_option maxRecDepth 20000
set_option autoImplicit false
/-! HF4: tuples, lists, comparisons, tests, displays, subscripts, slices. -/
namespace HF
open PySem PySem.Spec PyProof.Rows L2
section
variable {X : Cx} {E : Ent} {W : WX} {N : List Str} {sc : Scope} {fs : Str → Bool} {k : Nat} {Z : Wd}
theorem opTupCat_ok : Op2Ok X (rCatA X.K) opTupCat := by
  intro E s G M H H0 x y u v ev Q R d rx ry e q
  simp only [opTupCat] at e
  split at e
  · rename_i i j
    split at e
    · rename_i z
      cases e
      obtain ⟨a, us, rfl, ha, ra, za⟩ := repE_tup rx
      obtain ⟨b, vs, rfl, hb, rb, zb⟩ := repE_tup ry
      have l1 := ra.length
      have l2 := rb.length
      refine ⟨a, b, us, vs, rfl, rfl, ha, hb, by omega, fun e => ?_, fun e e' => ?_, fun e e' p hp => ?_⟩
      · subst e
        have ei : i = [] := List.length_eq_zero_iff.mp (by rw [l1]; rfl)
        subst ei
        exact q G H _ (Evo.refl _ _ _ _) R (by simpa using ry)
      · subst e'
        have ei : j = [] := List.length_eq_zero_iff.mp (by rw [l2]; rfl)
        subst ei
        exact q G H _ (Evo.refl _ _ _ _) R (by simpa using rx)
      · obtain ⟨V1, R1, r1⟩ := rep_newtup R (ra.append rb) (by rw [List.length_append]; omega) hp
        exact q _ _ _ V1 R1 r1
    · cases e
  · cases e
/-- a list and a list, known ones too -/
def rCatR : R2 := fun x y H Q => ∃ l b xs zs, x = .ref l ∧ y = .ref b ∧ Rd H l (.lst xs) ∧ Rd H b (.lst zs) ∧ xs.length + zs.length ≤ sizeLine ∧ ∀ p, H p = none → Q (.ref p) (upd H p (.lst (xs ++ zs)))
theorem op_catR : OpR X (binaryOp .Add) rCatR := by
  intro pins s σ H x y v u Q I rx ry h
  obtain ⟨l, b, xs, zs, rfl, rfl, hH, hB, hz, q⟩ := h
  cases rx
  cases ry
  obtain ⟨z, its, n, r, e⟩ : ObjOk X.prog X.w H s.heap l (.lst xs) := hH.ok I.hok
  obtain ⟨z2, its2, n2, r2, e2⟩ : ObjOk X.prog X.w H s.heap b (.lst zs) := hB.ok I.hok
  have hl := r.length
  have hl2 := r2.length
  refine PySem.P.add_list e e2 ?_ (by rw [List.size_toArray, List.size_toArray]; omega)
  have ea : its.toArray ++ its2.toArray = (its ++ its2).toArray := by simp
  rw [ea]
  exact ⟨.ref _, _, I.lnew (t' := s.toks) (r.append r2) (by rw [List.length_append]; omega), rfl, q _ I.fresh⟩
theorem opLstCat_ok : Op2Ok X rCatR opLstCat := by
  intro E s G M H H0 x y u v ev Q R d rx ry e q
  simp only [opLstCat] at e
  split at e
  · rename_i i j e1 e2
    split at e
    · rename_i z
      cases e
      obtain ⟨a, us, rfl, ha, ra, za⟩ := lstR_of R rx e1
      obtain ⟨b, vs, rfl, hb, rb, zb⟩ := lstR_of R ry e2
      have l1 := ra.length
      have l2 := rb.length
      refine ⟨a, b, us, vs, rfl, rfl, ha, hb, by omega, fun p hp => ?_⟩
      obtain ⟨V1, R1, r1⟩ := rep_newlst (H0 := H0) R d (ra.append rb) (by rw [List.length_append]; omega) hp
      exact q _ _ _ V1 R1 r1
    · cases e
  · cases e
/-- + -/
@[simp] def opAdd : Op2 := fun x y M => (opI2' (fun i j => i + j) x y M).or ((opStrCat x y M).or ((opTupCat x y M).or (opLstCat x y M)))
theorem opAdd_ok : Op2Ok X (fun x y H Q => rI0 (fun i j => .int (i + j)) x y H Q ∨ (∃ i j, x = .str i ∧ y = .str j ∧ i.length + j.length ≤ sizeLine ∧ Q (.str (i ++ j)) H) ∨ rCatA X.K x y H Q ∨ rCatR x y H Q) opAdd :=
  opI2'_ok.or (opStrCat_ok.or (opTupCat_ok.or opLstCat_ok))
theorem op_addA : OpR X (binaryOp .Add) (fun x y H Q => rI0 (fun i j => .int (i + j)) x y H Q ∨ (∃ i j, x = .str i ∧ y = .str j ∧ i.length + j.length ≤ sizeLine ∧ Q (.str (i ++ j)) H) ∨ rCatA X.K x y H Q ∨ rCatR x y H Q) :=
  op_add.or (op_add_str.or (op_catA.or op_catR))
/-- a list so many times -/
@[simp] def opRep : Op2 := fun x y M => match asLst M x, y with
  | some xs, .v (.int n) => if decide (n.natAbs < 2 ^ 62) && decide (xs.length * n.toNat ≤ sizeLine) then some (.fr (.lst (List.replicate n.toNat xs).flatten)) else none
  | _, _ => none
@[simp] def mulOk (i j : Int) : Bool := decide (i.natAbs < 2 ^ 64) || decide (j.natAbs < 2 ^ 64)
theorem mulOk_of {i j : Int} (h : mulOk i j = true) : CMul i j := by
  simp only [mulOk, Bool.or_eq_true, decide_eq_true_eq] at h
  rcases h with h | h
  · exact .inl (by omega)
  · exact .inr (by omega)
def opSub : Op2 := opI2' fun i j => i - j
@[simp] theorem opSub_at (x y : EV) (M : Mem) : opSub x y M = (opI2' fun i j => i - j) x y M := rfl
def opMul : Op2 := opI2 mulOk fun i j => i * j
@[simp] theorem opMul_at (x y : EV) (M : Mem) : opMul x y M = (opI2 mulOk fun i j => i * j) x y M := rfl
@[simp] def divOk (_ j : Int) : Bool := decide (0 < j) && decide (j < 1073741824)
def opDiv : Op2 := opI2 divOk fun i j => i / j
@[simp] theorem opDiv_at (x y : EV) (M : Mem) : opDiv x y M = (opI2 divOk fun i j => i / j) x y M := rfl
@[simp] def modOk (_ j : Int) : Bool := decide (0 < j)
def opMod : Op2 := opI2 modOk fun i j => i % j
@[simp] theorem opMod_at (x y : EV) (M : Mem) : opMod x y M = (opI2 modOk fun i j => i % j) x y M := rfl
@[simp] def powOk (i j : Int) : Bool := decide (0 ≤ j) && decide (j ≤ 1000000) && decide (i.natAbs < 2 ^ 64)
def opPow : Op2 := opI2 powOk fun i j => i ^ j.toNat
@[simp] theorem opPow_at (x y : EV) (M : Mem) : opPow x y M = (opI2 powOk fun i j => i ^ j.toNat) x y M := rfl
section
variable {a b : Expr} {f g : Sm EV} {pos : Pos}
theorem fe_add (ha : FE X E W a f) (hb : FE X E W b g) : FE X E W (.BinOp a .Add b pos) (e2 opAdd f g) := fe_bin op_addA opAdd_ok ha hb
theorem fe_sub (ha : FE X E W a f) (hb : FE X E W b g) : FE X E W (.BinOp a .Sub b pos) (e2 opSub f g) := fe_bin op_sub opI2'_ok ha hb
theorem fe_mul (ha : FE X E W a f) (hb : FE X E W b g) : FE X E W (.BinOp a .Mult b pos) (e2 opMul f g) := fe_bin op_mul (opI2_ok fun _ _ h => mulOk_of h) ha hb
theorem fe_div (ha : FE X E W a f) (hb : FE X E W b g) : FE X E W (.BinOp a .FloorDiv b pos) (e2 opDiv f g) := fe_bin op_fdiv (opI2_ok fun _ _ h => by simpa [divOk, CDiv] using h) ha hb
theorem fe_mod (ha : FE X E W a f) (hb : FE X E W b g) : FE X E W (.BinOp a .Mod b pos) (e2 opMod f g) := fe_bin op_mod (opI2_ok fun _ _ h => by simpa [modOk] using h) ha hb
theorem fe_pow (ha : FE X E W a f) (hb : FE X E W b g) : FE X E W (.BinOp a .Pow b pos) (e2 opPow f g) := fe_bin op_pow (opI2_ok fun _ _ h => by simpa [powOk, CPow, and_assoc] using h) ha hb
end

/-! ### comparisons -/
abbrev Cp2 := EV → EV → Mem → Option Bool
def Cp2Ok (X : Cx) (r : R2) (op : Cp2) : Prop := ∀ (E : Ent) (s : L2.St) (G : Gh) (M : Mem) (H H0 : Hp) (x y : EV) (u v : V) (b : Bool) (Q : VK), StRep X.K E G M s H →
  RepE X.K E H0 G M s H x u → RepE X.K E H0 G M s H y v → op x y M = some b → Q (.bl b) H → r u v H Q
@[simp] def b2 (op : Cp2) (f g : Sm EV) : Sm Bool := fun M => (f M).bnd fun x M1 => (g M1).bnd fun y M2 => optR (op x y M2) M2
@[simp] def eB (f : Sm Bool) : Sm EV := fun M => (f M).bnd fun b M1 => .ok (.v (.bl b)) M1
theorem Cp2Ok.or {r r' : R2} {o o' : Cp2} (h : Cp2Ok X r o) (h' : Cp2Ok X r' o') : Cp2Ok X (fun x y H Q => r x y H Q ∨ r' x y H Q) (fun x y M => (o x y M).or (o' x y M)) := by
  intro E s G M H H0 x y u v b Q R rx ry e q
  simp only at e
  cases e1 : o x y M with
  | some w =>
    rw [e1] at e
    cases e
    exact .inl (h E s G M H H0 x y u v _ Q R rx ry e1 q)
  | none =>
    rw [e1] at e
    exact .inr (h' E s G M H H0 x y u v b Q R rx ry e q)
theorem repE_blI {E : Ent} {H0 : Hp} {G : Gh} {M : Mem} {s : L2.St} {H : Hp} {b : Bool} : RepE X.K E H0 G M s H (.v (.bl b)) (.bl b) := show RepV X.K G H (.bl b) _ by simp only [RepV]
theorem tB_two {f g : Sm EV} {r : R2} {op : Cp2} (ok : Cp2Ok X r op) {s : L2.St} {H : Hp} {Q : VK} (h : tB' X E W (b2 op f g) s H fun b H' => Q (.bl b) H') : tOp r (tE X E W f) (tE X E W g) s H Q := by
  obtain ⟨G, M, R, h⟩ := h
  refine tE_one R h fun G1 M1 H1 x u V1 R1 rx h1 => ?_
  refine tE_one R1 h1 fun G2 M2 H2 y v V2 R2 ry h2 => ?_
  have V := V1.trans V2
  simp only [optR] at h2
  split at h2
  · rename_i b eo
    exact ok E s G2 M2 H2 H x y u v b Q R2 (rx.evo V2) (ry.old V1.dom) eo (h2.now R2)
  · exact False.elim h2
theorem tE_eB {f : Sm Bool} {s : L2.St} {H : Hp} {Q : VK} (h : tE X E W (eB f) s H Q) : tB' X E W f s H fun b H' => Q (.bl b) H' := by
  obtain ⟨G, M, R, h⟩ := h
  refine tB_one R h fun G1 M1 H1 b V1 R1 h1 => ?_
  exact h1.now R1 _ repE_blI
section
variable {a b c : Expr} {f g l : Sm EV} {pos : Pos}
theorem fe_cmp {op : CmpOp} {r : R2} {o : Cp2} (ho : OpR X (compareOp op) r) (k : Cp2Ok X r o) (ha : FE X E W a f) (hb : FE X E W b g) (hm : behindInMarks op b = false) : FE X E W (.Compare a [op] [b] pos) (eB (b2 o f g)) :=
  ⟨PE.weak (pe_cmpR ho ha.pe hb.pe hm) fun _ _ _ h => tB_two k (tE_eB h)⟩
theorem ft_cmp {op : CmpOp} {r : R2} {o : Cp2} (ho : OpR X (compareOp op) r) (k : Cp2Ok X r o) (ha : FE X E W a f) (hb : FE X E W b g) (hm : behindInMarks op b = false) : FT X E W (.Compare a [op] [b] pos) (b2 o f g) :=
  ⟨PT.weak (pt_cmpR ho ha.pe hb.pe hm) fun s H Q h => tB_two (Q := fun x H' => ∃ k, x = .bl k ∧ Q k H') k (by
    obtain ⟨G, M, R, h⟩ := h
    exact ⟨G, M, R, h.imp fun _ _ _ b _ _ q => ⟨b, rfl, q⟩⟩)⟩
/-- a chain of two -/
@[simp] def b3 (o o' : Cp2) (f g l : Sm EV) : Sm Bool := fun M => (f M).bnd fun x M1 => (g M1).bnd fun y M2 => (optR (o x y M2) M2).bnd fun b M3 => if b = true then (l M3).bnd fun z M4 => optR (o' y z M4) M4 else .ok false M3
theorem tB_three {r r' : R2} {o o' : Cp2} (k : Cp2Ok X r o) (k' : Cp2Ok X r' o') {s : L2.St} {H : Hp} {Q : VK} (h : tB' X E W (b3 o o' f g l) s H fun b H' => Q (.bl b) H') : tChain r r' (tE X E W f) (tE X E W g) (tE X E W l) s H Q := by
  obtain ⟨G, M, R, h⟩ := h
  refine tE_one R h fun G1 M1 H1 x u V1 R1 rx h1 => ?_
  refine tE_one R1 h1 fun G2 M2 H2 y v V2 R2 ry h2 => ?_
  have V := V1.trans V2
  cases eo : o x y M2 with
  | none => simp only [eo, optR, Res.bnd] at h2; exact False.elim h2
  | some b =>
    simp only [eo, optR, Res.bnd] at h2
    refine k E s G2 M2 H2 H x y u v b _ R2 (rx.evo V2) (ry.old V1.dom) eo ⟨b, rfl, ?_⟩
    cases b with
    | false => exact iteF (h2.now R2)
    | true =>
      rw [if_pos rfl] at h2
      refine iteT (tE_one R2 h2 fun G3 M3 H3 z w V3 R3 rz h3 => ?_)
      cases eo' : o' y z M3 with
      | none => rw [eo'] at h3; exact False.elim h3
      | some b =>
        rw [eo'] at h3
        exact k' E s G3 M3 H3 H1 y z v w b Q R3 (ry.evo V3) (rz.old V2.dom) eo' (OutP.now h3 R3)
theorem fe_chain {op op' : CmpOp} {r r' : R2} {o o' : Cp2} (ho : OpR X (compareOp op) r) (ho' : OpR X (compareOp op') r') (k : Cp2Ok X r o) (k' : Cp2Ok X r' o') (ha : FE X E W a f) (hb : FE X E W b g) (hc : FE X E W c l)
    (hm : lastMarks [op, op'] [b, c] = false := by with_unfolding_all rfl) : FE X E W (.Compare a [op, op'] [b, c] pos) (eB (b3 o o' f g l)) :=
  ⟨PE.weak (pe_chain ho ho' ha.pe hb.pe hc.pe hm) fun _ _ _ h => tB_three k k' (tE_eB h)⟩
theorem ft_chain {op op' : CmpOp} {r r' : R2} {o o' : Cp2} (ho : OpR X (compareOp op) r) (ho' : OpR X (compareOp op') r') (k : Cp2Ok X r o) (k' : Cp2Ok X r' o') (ha : FE X E W a f) (hb : FE X E W b g) (hc : FE X E W c l)
    (hm : lastMarks [op, op'] [b, c] = false := by with_unfolding_all rfl) : FT X E W (.Compare a [op, op'] [b, c] pos) (b3 o o' f g l) :=
  ⟨PT.weak (pt_chain ho ho' ha.pe hb.pe hc.pe hm) fun s H Q h => tB_three (Q := fun x H' => ∃ k, x = .bl k ∧ Q k H') k k' (by
    obtain ⟨G, M, R, h⟩ := h
    exact ⟨G, M, R, h.imp fun _ _ _ b _ _ q => ⟨b, rfl, q⟩⟩)⟩
end
@[simp] def cpI (p : Int → Int → Bool) : Cp2 := fun x y _ => match x, y with
  | .v (.int i), .v (.int j) => some (p i j)
  | _, _ => none
theorem cpI_ok {p : Int → Int → Bool} : Cp2Ok X (rI0 fun i j => .bl (p i j)) (cpI p) := by
  intro E s G M H H0 x y u v b Q R rx ry e q
  simp only [cpI] at e
  split at e
  · rename_i i j
    cases e
    exact ⟨i, j, repE_int rx, repE_int ry, q⟩
  · cases e
def cpLt : Cp2 := cpI fun i j => decide (i < j)
@[simp] theorem cpLt_at (x y : EV) (M : Mem) : cpLt x y M = (cpI fun i j => decide (i < j)) x y M := rfl
def cpLe : Cp2 := cpI fun i j => decide (i ≤ j)
@[simp] theorem cpLe_at (x y : EV) (M : Mem) : cpLe x y M = (cpI fun i j => decide (i ≤ j)) x y M := rfl
def cpGt : Cp2 := cpI fun i j => decide (j < i)
@[simp] theorem cpGt_at (x y : EV) (M : Mem) : cpGt x y M = (cpI fun i j => decide (j < i)) x y M := rfl
def cpGe : Cp2 := cpI fun i j => decide (j ≤ i)
@[simp] theorem cpGe_at (x y : EV) (M : Mem) : cpGe x y M = (cpI fun i j => decide (j ≤ i)) x y M := rfl
/-! equality of data -/
mutual
def PV.toD : PV → Option PyData
  | .non => some .none
  | .bl b => some (.bool b)
  | .int i => some (.int i)
  | .str x => some (.str x)
  | .tup xs => (toDs xs).map .tuple
  | .lst xs => (toDs xs).map .list
  | .rol xs => (toDs xs).map .list
  | _ => none
def toDs : List PV → Option (List PyData)
  | [] => some []
  | x :: xs => match x.toD, toDs xs with
    | some d, some ds => some (d :: ds)
    | _, _ => none
end
@[simp] def evD (M : Mem) (e : EV) : Option PyData := match e with
  | .v (.ref r) => ((asLst M (.v (.ref r))).bind toDs).map .list
  | .v p => p.toD
  | e => ((asLst M e).bind toDs).map .list
mutual
theorem toD_rep {K : PySem.W.Frag} {G : Gh} {H : Hp} : ∀ (p : PV) (d : PyData) (v : V), p.toD = some d → RepV K G H p v → Dp K H v d
  | .non, d, v, e, h => by simp only [PV.toD] at e; cases e; simp only [RepV] at h; subst h; exact .non
  | .bl b, d, v, e, h => by simp only [PV.toD] at e; cases e; simp only [RepV] at h; subst h; exact .bl b
  | .int b, d, v, e, h => by simp only [PV.toD] at e; cases e; simp only [RepV] at h; subst h; exact .int b
  | .str b, d, v, e, h => by simp only [PV.toD] at e; cases e; simp only [RepV] at h; subst h; exact .str b
  | .tup xs, d, v, e, h => by
    simp only [PV.toD] at e
    cases e1 : toDs xs with
    | none => rw [e1] at e; cases e
    | some ds =>
      rw [e1] at e; cases e
      obtain ⟨a, us, rfl, q, r, z⟩ := tup_of h
      exact .tup q (toDs_rep xs ds us e1 r)
  | .lst xs, d, v, e, h => by
    simp only [PV.toD] at e
    cases e1 : toDs xs with
    | none => rw [e1] at e; cases e
    | some ds =>
      rw [e1] at e; cases e
      simp only [RepV] at h
      obtain ⟨a, us, rfl, ⟨_, _, q⟩, r⟩ := h
      exact .lst (.inl q) (toDs_rep xs ds us e1 r)
  | .rol xs, d, v, e, h => by
    simp only [PV.toD] at e
    cases e1 : toDs xs with
    | none => rw [e1] at e; cases e
    | some ds =>
      rw [e1] at e; cases e
      simp only [RepV] at h
      obtain ⟨a, us, rfl, q, r⟩ := h
      exact .lst q.sq (toDs_rep xs ds us e1 r)
  | .dct _ _, d, v, e, h => by simp only [PV.toD] at e; cases e
  | .ref _, d, v, e, h => by simp only [PV.toD] at e; cases e
  | .con _, d, v, e, h => by simp only [PV.toD] at e; cases e
theorem toDs_rep {K : PySem.W.Frag} {G : Gh} {H : Hp} : ∀ (ps : List PV) (ds : List PyData) (vs : List V), toDs ps = some ds → RepVs K G H ps vs → DpAll K H vs ds
  | [], ds, vs, e, h => by simp only [toDs] at e; cases e; rw [RepVs.nil_iff.mp h]; exact .nil
  | p :: ps, ds, vs, e, h => by
    obtain ⟨u, us, rfl, r, t⟩ := RepVs.cons_iff.mp h
    simp only [toDs] at e
    split at e
    · rename_i d ds' e1 e2
      cases e
      exact .cons (toD_rep p d u e1 r) (toDs_rep ps ds' us e2 t)
    · cases e
end
theorem evD_rep {E : Ent} {H0 : Hp} {G : Gh} {M : Mem} {s : L2.St} {H : Hp} {e : EV} {u : V} {d : PyData} (R : StRep X.K E G M s H) (r : RepE X.K E H0 G M s H e u) (h : evD M e = some d) : Dp X.K H u d := by
  have viaL : ∀ {e : EV}, RepE X.K E H0 G M s H e u → ((asLst M e).bind toDs).map .list = some d → Dp X.K H u d := fun {e} r h => by
    cases e1 : asLst M e with
    | none => rw [e1] at h; cases h
    | some xs =>
      rw [e1] at h
      have h : (toDs xs).map PyData.list = some d := h
      cases e2 : toDs xs with
      | none => rw [e2] at h; cases h
      | some ds =>
        rw [e2] at h; cases h
        obtain ⟨a, us, rfl, q, rr, z⟩ := lst_of R r e1
        exact .lst q (toDs_rep xs ds us e2 rr)
  cases e with
  | v p =>
    cases p with
    | ref c => exact viaL r h
    | non => exact toD_rep (G := G) _ _ _ h r
    | bl b => exact toD_rep (G := G) _ _ _ h r
    | int b => exact toD_rep (G := G) _ _ _ h r
    | str b => exact toD_rep (G := G) _ _ _ h r
    | tup b => exact toD_rep (G := G) _ _ _ h r
    | lst b => exact toD_rep (G := G) _ _ _ h r
    | dct b c => exact toD_rep (G := G) _ _ _ h r
    | con b => exact toD_rep (G := G) _ _ _ h r
    | rol b => exact toD_rep (G := G) _ _ _ h r
  | fr o => exact viaL r h
  | sl i => exact viaL r h
/-- == of scalars -/
@[simp] def eqS : Cp2 := fun x y _ => match x, y with
  | .v (.int i), .v (.int j) => some (decide (i = j))
  | .v (.str i), .v (.str j) => some (decide (i = j))
  | .v (.bl i), .v (.bl j) => some (decide (i = j))
  | .v .non, .v .non => some true
  | .v .non, .v (.int _) => some false
  | .v .non, .v (.str _) => some false
  | .v (.int _), .v .non => some false
  | .v (.str _), .v .non => some false
  | _, _ => none
theorem eqS_ok {E : Ent} {H0 : Hp} {G : Gh} {M : Mem} {s : L2.St} {H : Hp} {x y : EV} {u v : V} {b : Bool} (rx : RepE X.K E H0 G M s H x u) (ry : RepE X.K E H0 G M s H y v) (h : eqS x y M = some b) : scal u v = true ∧ decide (u = v) = b := by
  have non : ∀ {u : V}, RepE X.K E H0 G M s H (.v .non) u → u = .non := fun {u} h => by
    have h : RepV X.K G H .non u := h
    simpa only [RepV] using h
  simp only [eqS] at h
  split at h
  · cases h; rw [repE_int rx, repE_int ry]; exact ⟨rfl, by simp⟩
  · cases h; rw [repE_str rx, repE_str ry]; exact ⟨rfl, by simp⟩
  · cases h; rw [repE_bl rx, repE_bl ry]; exact ⟨rfl, by simp⟩
  · cases h; rw [non rx, non ry]; exact ⟨rfl, by simp⟩
  · cases h; rw [non rx, repE_int ry]; exact ⟨rfl, by simp⟩
  · cases h; rw [non rx, repE_str ry]; exact ⟨rfl, by simp⟩
  · cases h; rw [repE_int rx, non ry]; exact ⟨rfl, by simp⟩
  · cases h; rw [repE_str rx, non ry]; exact ⟨rfl, by simp⟩
  · cases h
@[simp] def eqD : Cp2 := fun x y M => match evD M x, evD M y with
  | some d, some e => if SeqAt.shaped d && SeqAt.shaped e then some (PyData.eqv d e) else none
  | _, _ => none
theorem eqD_ok {E : Ent} {H0 : Hp} {G : Gh} {M : Mem} {s : L2.St} {H : Hp} {x y : EV} {u v : V} {b : Bool} (R : StRep X.K E G M s H) (rx : RepE X.K E H0 G M s H x u) (ry : RepE X.K E H0 G M s H y v) (h : eqD x y M = some b) :
    ∃ d e, Dp X.K H u d ∧ Dp X.K H v e ∧ SeqAt.shaped d = true ∧ SeqAt.shaped e = true ∧ PyData.eqv d e = b := by
  simp only [eqD] at h
  split at h
  · rename_i d e e1 e2
    split at h
    · rename_i z
      rw [Bool.and_eq_true] at z
      cases h
      exact ⟨d, e, evD_rep R rx e1, evD_rep R ry e2, z.1, z.2, rfl⟩
    · cases h
  · cases h
@[simp] def cpEq : Cp2 := fun x y M => (eqS x y M).or (eqD x y M)
@[simp] def cpNe : Cp2 := fun x y M => ((eqS x y M).map (!·)).or ((eqD x y M).map (!·))
theorem cpEq_ok : Cp2Ok X (fun x y H Q => rEq x y H Q ∨ rEqD X.K x y H Q) cpEq := by
  refine Cp2Ok.or (fun E s G M H H0 x y u v b Q R rx ry e q => ?_) fun E s G M H H0 x y u v b Q R rx ry e q => ?_
  · obtain ⟨h1, h2⟩ := eqS_ok rx ry e
    exact ⟨h1, by rw [h2]; exact q⟩
  · obtain ⟨d, d', h1, h2, h3, h4, h5⟩ := eqD_ok R rx ry e
    exact ⟨d, d', h1, h2, h3, h4, by rw [h5]; exact q⟩
theorem cpNe_ok : Cp2Ok X (fun x y H Q => rNe x y H Q ∨ rNeD X.K x y H Q) cpNe := by
  refine Cp2Ok.or (o := fun x y M => (eqS x y M).map (!·)) (o' := fun x y M => (eqD x y M).map (!·)) (fun E s G M H H0 x y u v b Q R rx ry e q => ?_) fun E s G M H H0 x y u v b Q R rx ry e q => ?_
  · cases e1 : eqS x y M with
    | none => simp only [e1] at e; cases e
    | some c =>
      simp only [e1] at e; cases e
      obtain ⟨h1, h2⟩ := eqS_ok rx ry e1
      exact ⟨h1, by rw [h2]; exact q⟩
  · cases e1 : eqD x y M with
    | none => simp only [e1] at e; cases e
    | some c =>
      simp only [e1] at e; cases e
      obtain ⟨d, d', h1, h2, h3, h4, h5⟩ := eqD_ok R rx ry e1
      exact ⟨d, d', h1, h2, h3, h4, by rw [h5]; exact q⟩
theorem op_eqA (A : Amb Z X W N sc fs k) : OpR X (compareOp .Eq) (fun x y H Q => rEq x y H Q ∨ rEqD X.K x y H Q) := op_eq.or (op_eqD A.u64)
theorem op_neA (A : Amb Z X W N sc fs k) : OpR X (compareOp .NotEq) (fun x y H Q => rNe x y H Q ∨ rNeD X.K x y H Q) := op_ne.or (op_neD A.u64)
section
variable {a b c : Expr} {f g l : Sm EV} {pos : Pos}
theorem fe_eq (A : Amb Z X W N sc fs k) (ha : FE X E W a f) (hb : FE X E W b g) : FE X E W (.Compare a [.Eq] [b] pos) (eB (b2 cpEq f g)) := fe_cmp (op_eqA A) cpEq_ok ha hb (nomark _)
theorem ft_eq (A : Amb Z X W N sc fs k) (ha : FE X E W a f) (hb : FE X E W b g) : FT X E W (.Compare a [.Eq] [b] pos) (b2 cpEq f g) := ft_cmp (op_eqA A) cpEq_ok ha hb (nomark _)
theorem fe_ne (A : Amb Z X W N sc fs k) (ha : FE X E W a f) (hb : FE X E W b g) : FE X E W (.Compare a [.NotEq] [b] pos) (eB (b2 cpNe f g)) := fe_cmp (op_neA A) cpNe_ok ha hb (nomark _)
theorem ft_ne (A : Amb Z X W N sc fs k) (ha : FE X E W a f) (hb : FE X E W b g) : FT X E W (.Compare a [.NotEq] [b] pos) (b2 cpNe f g) := ft_cmp (op_neA A) cpNe_ok ha hb (nomark _)
theorem fe_lt (ha : FE X E W a f) (hb : FE X E W b g) : FE X E W (.Compare a [.Lt] [b] pos) (eB (b2 cpLt f g)) := fe_cmp op_lt cpI_ok ha hb (nomark _)
theorem ft_lt (ha : FE X E W a f) (hb : FE X E W b g) : FT X E W (.Compare a [.Lt] [b] pos) (b2 cpLt f g) := ft_cmp op_lt cpI_ok ha hb (nomark _)
theorem fe_le (ha : FE X E W a f) (hb : FE X E W b g) : FE X E W (.Compare a [.LtE] [b] pos) (eB (b2 cpLe f g)) := fe_cmp op_le cpI_ok ha hb (nomark _)
theorem ft_le (ha : FE X E W a f) (hb : FE X E W b g) : FT X E W (.Compare a [.LtE] [b] pos) (b2 cpLe f g) := ft_cmp op_le cpI_ok ha hb (nomark _)
theorem fe_gt (ha : FE X E W a f) (hb : FE X E W b g) : FE X E W (.Compare a [.Gt] [b] pos) (eB (b2 cpGt f g)) := fe_cmp op_gt cpI_ok ha hb (nomark _)
theorem ft_gt (ha : FE X E W a f) (hb : FE X E W b g) : FT X E W (.Compare a [.Gt] [b] pos) (b2 cpGt f g) := ft_cmp op_gt cpI_ok ha hb (nomark _)
theorem fe_ge (ha : FE X E W a f) (hb : FE X E W b g) : FE X E W (.Compare a [.GtE] [b] pos) (eB (b2 cpGe f g)) := fe_cmp op_ge cpI_ok ha hb (nomark _)
theorem ft_ge (ha : FE X E W a f) (hb : FE X E W b g) : FT X E W (.Compare a [.GtE] [b] pos) (b2 cpGe f g) := ft_cmp op_ge cpI_ok ha hb (nomark _)
end
/-! is None -/
@[simp] def isN (M : Mem) (e : EV) : Option Bool := match e with
  | .v .non => some true
  | .sl i => match slotAt M i with
    | some (.own _) => some false
    | _ => none
  | _ => some false
@[simp] def bNon (f : Sm EV) : Sm Bool := fun M => (f M).bnd fun x M1 => optR (isN M1 x) M1
@[simp] def bNot (f : Sm Bool) : Sm Bool := fun M => (f M).bnd fun x M1 => .ok (!x) M1
theorem isN_rep {E : Ent} {H0 : Hp} {G : Gh} {M : Mem} {s : L2.St} {H : Hp} {x : EV} {u : V} {b : Bool} (R : StRep X.K E G M s H) (rx : RepE X.K E H0 G M s H x u) (hx : isN M x = some b) : decide (u = .non) = b := by
  cases x with
  | v p =>
    have rx : RepV X.K G H p u := rx
    cases p <;> simp only [RepV] at rx <;> simp only [isN, Option.some.injEq] at hx <;> subst hx
    case non => subst rx; rfl
    case bl => subst rx; rfl
    case int => subst rx; rfl
    case str => subst rx; rfl
    case con => subst rx; rfl
    case ref => obtain ⟨a, z, _⟩ := rx; subst z; rfl
    all_goals (obtain ⟨a, us, z, _⟩ := rx; subst z; rfl)
  | fr o => obtain ⟨a, w, z, _⟩ := rx; subst z; cases hx; rfl
  | sl i =>
    simp only [isN] at hx
    split at hx
    · rename_i o ho
      cases hx
      obtain ⟨a, w, z, _⟩ := R.own i o (slotAt_some ho)
      have rx : s[i]? = some (some u) := rx
      rw [z] at rx
      cases rx
      rfl
    · cases hx
theorem tB_non {f : Sm EV} {s : L2.St} {H : Hp} {Q : VK} (h : tB' X E W (bNon f) s H fun b H' => Q (.bl b) H') : tIsN (tE X E W f) s H Q := by
  obtain ⟨G, M, R, h⟩ := h
  refine tE_one R h fun G1 M1 H1 x u V1 R1 rx h1 => ?_
  cases eo : isN M1 x with
  | none => rw [eo] at h1; exact False.elim h1
  | some b =>
    rw [eo] at h1
    rw [isN_rep R1 rx eo]
    exact OutP.now h1 R1
theorem tB_not {f : Sm Bool} {s : L2.St} {H : Hp} {Q : Bool → Hp → Prop} (h : tB' X E W (bNot f) s H Q) : tB' X E W f s H fun b H' => Q (!b) H' := by
  obtain ⟨G, M, R, h⟩ := h
  exact tB_one R h fun G1 M1 H1 b V1 R1 h1 => h1.now R1
section
variable {a b : Expr} {f g : Sm EV} {pos : Pos}
theorem tIsN_tNotN {te : TE} {s : L2.St} {H : Hp} {Q : VK} (h : tIsN te s H fun x H' => ∃ c, x = .bl c ∧ Q (.bl !c) H') : te s H fun x H1 => ∃ c, V.bl (decide (x = .non)) = .bl c ∧ Q (.bl !c) H1 := h
theorem fe_isN {j pos'} (ha : FE X E W a f) : FE X E W (.Compare a [.Is] [.Constant .none j pos'] pos) (eB (bNon f)) :=
  ⟨PE.weak (pe_cmp (pc_isN ha.pe) (nomark _)) fun _ _ _ h => tB_non (tE_eB h)⟩
theorem ft_isN {j pos'} (ha : FE X E W a f) : FT X E W (.Compare a [.Is] [.Constant .none j pos'] pos) (bNon f) :=
  ⟨PT.weak (pt_cmp (pc_isN ha.pe) (nomark _)) fun s H Q h => tB_non (Q := fun x H' => ∃ k, x = .bl k ∧ Q k H') (by
    obtain ⟨G, M, R, h⟩ := h
    exact ⟨G, M, R, h.imp fun _ _ _ b _ _ q => ⟨b, rfl, q⟩⟩)⟩
theorem tNotN_of {s : L2.St} {H : Hp} {Q : VK} (h : tB' X E W (bNot (bNon f)) s H fun b H' => Q (.bl b) H') : tNotN (tE X E W f) s H Q := by
  obtain ⟨G, M, R, h⟩ := tB_not h
  refine tE_one R h fun G1 M1 H1 x u V1 R1 rx h1 => ?_
  cases eo : isN M1 x with
  | none => rw [eo] at h1; exact False.elim h1
  | some b =>
    rw [eo] at h1
    rw [isN_rep R1 rx eo]
    exact OutP.now h1 R1
theorem fe_notN {j pos'} (ha : FE X E W a f) : FE X E W (.Compare a [.IsNot] [.Constant .none j pos'] pos) (eB (bNot (bNon f))) :=
  ⟨PE.weak (pe_cmp (pc_notN ha.pe) (nomark _)) fun _ _ _ h => tNotN_of (tE_eB h)⟩
theorem ft_notN {j pos'} (ha : FE X E W a f) : FT X E W (.Compare a [.IsNot] [.Constant .none j pos'] pos) (bNot (bNon f)) :=
  ⟨PT.weak (pt_cmp (pc_notN ha.pe) (nomark _)) fun s H Q h => tNotN_of (Q := fun x H' => ∃ k, x = .bl k ∧ Q k H') (by
    obtain ⟨G, M, R, h⟩ := h
    exact ⟨G, M, R, h.imp fun _ _ _ b _ _ q => ⟨b, rfl, q⟩⟩)⟩
end
end
end HF

end
section
set_option Elab.async false
set_option linter.all false
set_option maxRecDepth 20000
set_option autoImplicit false
/-! HF5: and, or, not, displays, subscripts, slices, built-in functions of one or two arguments. -/
namespace HF
open PySem PySem.Spec PyProof.Rows L2
section
variable {X : Cx} {E : Ent} {W : WX} {N : List Str} {sc : Scope} {fs : Str → Bool} {k : Nat} {Z : Wd}
/-! ### and, or, not, if else -/
@[simp] def bAnd (f g : Sm Bool) : Sm Bool := fun M => (f M).bnd fun b M1 => if b = true then g M1 else .ok false M1
@[simp] def bOr (f g : Sm Bool) : Sm Bool := fun M => (f M).bnd fun b M1 => if b = true then .ok true M1 else g M1
theorem tB_and {f g : Sm Bool} {s : L2.St} {H : Hp} {Q : Bool → Hp → Prop} (h : tB' X E W (bAnd f g) s H Q) : tAnd (tB' X E W f) (tB' X E W g) s H Q := by
  obtain ⟨G, M, R, h⟩ := h
  refine tB_one R h fun G1 M1 H1 b V1 R1 h1 => ?_
  cases b with
  | true =>
    rw [if_pos rfl] at h1
    exact iteT ⟨G1, M1, R1, h1⟩
  | false => exact iteF (OutP.now h1 R1)
theorem tB_or {f g : Sm Bool} {s : L2.St} {H : Hp} {Q : Bool → Hp → Prop} (h : tB' X E W (bOr f g) s H Q) : tOr (tB' X E W f) (tB' X E W g) s H Q := by
  obtain ⟨G, M, R, h⟩ := h
  refine tB_one R h fun G1 M1 H1 b V1 R1 h1 => ?_
  cases b with
  | true => exact iteT (OutP.now h1 R1)
  | false =>
    rw [if_neg Bool.false_ne_true] at h1
    exact iteF ⟨G1, M1, R1, h1⟩
section
variable {a b : Expr} {rest : List Expr} {f g : Sm Bool} {pos : Pos}
theorem FW.ft (h : FW X E W a f) : FT X E W a f := ⟨h.pe.pt⟩
theorem fw_and1 (h : FT X E W a f) : FW X E W (.BoolOp .And [a] pos) f := ⟨pw_and1 h.pe⟩
theorem fw_or1 (h : FT X E W a f) : FW X E W (.BoolOp .Or [a] pos) f := ⟨pw_or1 h.pe⟩
theorem fw_and (h : FT X E W a f) (h' : FW X E W (.BoolOp .And (b :: rest) pos) g) : FW X E W (.BoolOp .And (a :: b :: rest) pos) (bAnd f g) := ⟨PW.weak (pw_and h.pe h'.pe) fun _ _ _ => tB_and⟩
theorem fw_or (h : FT X E W a f) (h' : FW X E W (.BoolOp .Or (b :: rest) pos) g) : FW X E W (.BoolOp .Or (a :: b :: rest) pos) (bOr f g) := ⟨PW.weak (pw_or h.pe h'.pe) fun _ _ _ => tB_or⟩
theorem ft_not (h : FT X E W a f) : FT X E W (.UnaryOp .Not a pos) (bNot f) := ⟨PT.weak (pt_not h.pe) fun _ _ _ => tB_not⟩
end
/-- the truth of a truth -/
@[simp] def bVal (f : Sm EV) : Sm Bool := fun M => (f M).bnd fun x M1 => match x with
  | .v (.bl b) => .ok b M1
  | _ => .bad
theorem tB_val {f : Sm EV} {s : L2.St} {H : Hp} {Q : Bool → Hp → Prop} (h : tB' X E W (bVal f) s H Q) : tE X E W f s H fun x H' => ∃ c, x = .bl c ∧ Q c H' := by
  obtain ⟨G, M, R, h⟩ := h
  refine tE_one R h fun G1 M1 H1 x u V1 R1 rx h1 => ?_
  split at h1
  · exact ⟨_, repE_bl rx, OutP.now h1 R1⟩
  · exact False.elim h1
section
variable {a b c : Expr} {rest : List Expr} {f g l : Sm EV} {pos : Pos}
theorem ft_val (h : FE X E W a f) (he : ∀ whole, isTrue a X.env whole = (do let v ← whole; standAt a.pos; holding [v] (truthy v)) := by intro _; rfl) : FT X E W a (bVal f) := ⟨PT.weak (pt_val h.pe he) fun _ _ _ => tB_val⟩
@[simp] def eAnd (f g : Sm EV) : Sm EV := fun M => (bVal f M).bnd fun b M1 => if b = true then g M1 else .ok (.v (.bl false)) M1
@[simp] def eOr (f g : Sm EV) : Sm EV := fun M => (bVal f M).bnd fun b M1 => if b = true then .ok (.v (.bl true)) M1 else g M1
theorem tE_re {s : L2.St} {G G1 : Gh} {M M1 : Mem} {H H1 : Hp} {Q : VK} {r : Res EV} (V1 : Evo s G M H G1 M1 H1) (h : OutP X E W s G1 M1 H1 r fun G' M' H' ev => ∀ u, RepE X.K E H G' M' s H' ev u → Q u H') :
    OutP X E W s G1 M1 H1 r fun G' M' H' ev => ∀ u, RepE X.K E H1 G' M' s H' ev u → Q u H' := h.imp fun _ _ _ _ _ _ q u ru => q u (ru.old V1.dom)
theorem fe_one {op} (h : FE X E W a f) : FE X E W (.BoolOp op [a] pos) f := ⟨pe_one h.pe⟩
theorem fe_and (h : FE X E W a f) (h' : FE X E W (.BoolOp .And (b :: rest) pos) g) : FE X E W (.BoolOp .And (a :: b :: rest) pos) (eAnd f g) := by
  refine ⟨PE.weak (pe_and h.pe h'.pe) ?_⟩
  rintro s H Q ⟨G, M, R, h⟩
  refine tB_val (Q := fun c H1 => if c = true then tE X E W g s H1 Q else Q (.bl false) H1) (tB_one R h fun G1 M1 H1 b V1 R1 h1 => ?_)
  cases b with
  | true =>
    rw [if_pos rfl] at h1
    exact iteT ⟨G1, M1, R1, tE_re V1 h1⟩
  | false => exact iteF (OutP.now h1 R1 _ repE_blI)
theorem fe_or (h : FE X E W a f) (h' : FE X E W (.BoolOp .Or (b :: rest) pos) g) : FE X E W (.BoolOp .Or (a :: b :: rest) pos) (eOr f g) := by
  refine ⟨PE.weak (pe_or h.pe h'.pe) ?_⟩
  rintro s H Q ⟨G, M, R, h⟩
  refine tB_val (Q := fun c H1 => if c = true then Q (.bl true) H1 else tE X E W g s H1 Q) (tB_one R h fun G1 M1 H1 b V1 R1 h1 => ?_)
  cases b with
  | true => exact iteT (OutP.now h1 R1 _ repE_blI)
  | false =>
    rw [if_neg Bool.false_ne_true] at h1
    exact iteF ⟨G1, M1, R1, tE_re V1 h1⟩
theorem fe_not (h : FE X E W a f) : FE X E W (.UnaryOp .Not a pos) (eB (bNot (bVal f))) := by
  refine ⟨PE.weak (pe_not h.pe) fun s H Q h => ?_⟩
  exact tB_val (tB_not (tE_eB h))
@[simp] def eIf (c : Sm Bool) (f g : Sm EV) : Sm EV := fun M => (c M).bnd fun b M1 => if b = true then f M1 else g M1
theorem fe_ifExp {t : Sm Bool} (hc : FT X E W c t) (h : FE X E W a f) (h' : FE X E W b g) : FE X E W (.IfExp c a b pos) (eIf t f g) := by
  refine ⟨PE.weak (pe_ifExp hc.pe h.pe h'.pe) ?_⟩
  rintro s H Q ⟨G, M, R, h⟩
  refine tB_one R h fun G1 M1 H1 b V1 R1 h1 => ?_
  cases b with
  | true =>
    rw [if_pos rfl] at h1
    exact iteT ⟨G1, M1, R1, tE_re V1 h1⟩
  | false =>
    rw [if_neg Bool.false_ne_true] at h1
    exact iteF ⟨G1, M1, R1, tE_re V1 h1⟩
end

/-! ### arguments, displays -/
@[simp] def aNil : Sm (List PV) := fun M => .ok [] M
@[simp] def aCons (f : Sm PV) (g : Sm (List PV)) : Sm (List PV) := fun M => (f M).bnd fun p M1 => (g M1).bnd fun ps M2 => .ok (p :: ps) M2
structure FL (X : Cx) (E : Ent) (W : WX) (es : List Expr) (f : Sm (List PV)) : Prop where
  fa : FA X E W es f
  len : ∀ M ps M', f M = .ok ps M' → ps.length = es.length
section
variable {e : Expr} {es : List Expr} {f : Sm PV} {g : Sm (List PV)} {pos : Pos}
theorem fl_nil : FL X E W [] aNil := by
  refine ⟨⟨PA.weak pa_nil ?_⟩, fun M ps M' h => by cases h; rfl⟩
  rintro s H Q ⟨G, M, R, h⟩
  exact h.now R [] RepVs.nil
theorem fl_cons (he : FP X E W e f) (hr : FL X E W es g) (hs : starEach (e :: es) X.env = (false, eval e X.env) :: starEach es X.env := by rfl) : FL X E W (e :: es) (aCons f g) := by
  refine ⟨⟨PA.weak (pa_cons he.pe hr.fa.pe hs) ?_⟩, fun M ps M' h => ?_⟩
  · rintro s H Q ⟨G, M, R, h⟩
    refine tP_one R h fun G1 M1 H1 p u V1 R1 rp h1 => ?_
    refine tL_one R1 h1 fun G2 M2 H2 ps us V2 R2 rps h2 => ?_
    exact OutP.now h2 R2 _ (RepVs.cons (RepV.mono V2.ext _ _ rp) rps)
  · simp only [aCons] at h
    cases h1 : f M with
    | ok p M1 =>
      rw [h1] at h
      simp only [Res.bnd] at h
      cases h2 : g M1 with
      | ok ps' M2 =>
        rw [h2] at h
        cases h
        rw [List.length_cons, List.length_cons, hr.len _ _ _ h2]
      | exn c M2 => rw [h2] at h; cases h
      | bad => rw [h2] at h; cases h
    | exn c M1 => rw [h1] at h; cases h
    | bad => rw [h1] at h; cases h
@[simp] def eTup (g : Sm (List PV)) : Sm EV := fun M => (g M).bnd fun ps M1 => .ok (.v (.tup ps)) M1
@[simp] def eLst (g : Sm (List PV)) : Sm EV := fun M => (g M).bnd fun ps M1 => .ok (.fr (.lst ps)) M1
theorem fe_tup {x1} (h : FL X E W es g) (z : es.length ≤ 1000 := by decide) : FE X E W (.Tuple es x1 pos) (eTup g) := by
  refine ⟨PE.weak (pe_tup h.fa.pe) ?_⟩
  rintro s H Q ⟨G, M, R, hh⟩
  refine ⟨G, M, R, ?_⟩
  cases hg : g M with
  | exn c M1 => simp only [eTup, hg, Res.bnd] at hh; exact hh
  | bad => simp only [eTup, hg, Res.bnd] at hh; exact hh
  | ok ps M1 =>
    simp only [eTup, hg, Res.bnd] at hh
    intro G1 H1 V1 R1 us rr
    have zz : us.length ≤ sizeLine := by rw [← rr.length, h.len M ps M1 hg, sizeLine_eq]; omega
    refine ⟨zz, fun p hp => ?_⟩
    obtain ⟨V2, R2, r2⟩ := rep_newtup R1 rr zz hp
    exact hh _ _ (V1.trans V2) R2 _ r2
theorem fe_lst (h : FL X E W es g) (z : es.length ≤ 1000 := by decide) : FE X E W (.List es pos) (eLst g) := by
  refine ⟨PE.weak (pe_lst h.fa.pe) ?_⟩
  rintro s H Q ⟨G, M, R, hh⟩
  refine ⟨G, M, R, ?_⟩
  cases hg : g M with
  | exn c M1 => simp only [eLst, hg, Res.bnd] at hh; exact hh
  | bad => simp only [eLst, hg, Res.bnd] at hh; exact hh
  | ok ps M1 =>
    simp only [eLst, hg, Res.bnd] at hh
    intro G1 H1 V1 R1 us rr
    have zz : us.length ≤ sizeLine := by rw [← rr.length, h.len M ps M1 hg, sizeLine_eq]; omega
    refine ⟨zz, fun p hp => ?_⟩
    obtain ⟨V2, R2, r2⟩ := rep_newlst (H0 := H) R1 V1.dom rr zz hp
    exact hh _ _ (V1.trans V2) R2 _ r2
/-- {} -/
@[simp] def eDct0 : Sm EV := fun M => .ok (.fr (.dct [] [])) M
theorem fe_dct0 : FE X E W (.Dict [] [] pos) eDct0 := by
  refine ⟨PE.weak pe_dnewK ?_⟩
  rintro s H Q ⟨G, M, R, hh⟩ p hp
  obtain ⟨R1, V1, eh, nf, na, no⟩ := R.laid (.dK []) hp
  exact hh G _ V1 R1 _ ⟨p, _, rfl, upd_same, ⟨[], rfl, Nat.zero_le _, rfl, RepVs.nil⟩, eh, nf, na, no, hp⟩
end

/-! ### dicts by keys -/
@[simp] def keyOf : EV → Option Key
  | .v (.int i) => some (.inl i)
  | .v (.str x) => some (.inr x)
  | _ => none
theorem key_rep {H0 : Hp} {G : Gh} {M : Mem} {s : L2.St} {H : Hp} {e : EV} {u : V} {q : Key} (r : RepE X.K E H0 G M s H e u) (h : keyOf e = some q) : u = kV q := by
  unfold keyOf at h
  split at h
  · cases h; exact repE_int r
  · cases h; exact repE_str r
  · cases h
@[simp] def dGet : List Key → List PV → Key → Option PV
  | q :: ks, x :: xs, k => if q = k then some x else dGet ks xs k
  | _, _, _ => none
def dPut : List Key → List PV → Key → PV → List Key × List PV
  | q :: ks, x :: xs, k, p => if q = k then (q :: ks, p :: xs) else let r := dPut ks xs k p; (q :: r.1, x :: r.2)
  | _, _, k, p => ([k], [p])
theorem dGet_rep {K : PySem.W.Frag} {G : Gh} {H : Hp} : ∀ {kvs : List (Key × V)} {ks : List Key} {xs : List PV} (k : Key), kvs.map (·.1) = ks → RepVs K G H xs (kvs.map (·.2)) →
    (match dGet ks xs k with | some p => ∃ v, valV kvs k = some v ∧ RepV K G H p v | none => valV kvs k = none)
  | [], ks, xs, k, e, r => by
    cases e
    have e2 : xs = [] := List.length_eq_zero_iff.mp r.length
    subst e2
    simp [dGet, valV]
  | (q, v) :: kvs, ks, xs, k, e, r => by
    cases e
    cases xs with
    | nil => have := r.length; simp at this
    | cons x xs =>
      obtain ⟨u, us, e2, r1, r2⟩ := RepVs.cons_iff.mp r
      cases e2
      simp only [List.map_cons, dGet]
      by_cases h : q = k
      · rw [if_pos h]
        exact ⟨v, valV_pos h, r1⟩
      · rw [if_neg h, valV_neg (p := (q, v)) h]
        exact dGet_rep k rfl r2

/-! ### subscripts -/
theorem ix_dict (hu : X.A.units + 1 < cLine) : IxR X (fun x y H Q => ∃ a v, x = .ref a ∧ DGet H a y (some v) ∧ Q v H) := by
  intro value slice pins s σ H x y v u Q I rx ry h hs
  obtain ⟨a, z, rfl, g, q⟩ := h
  cases rx
  exact tail_any (dict_typeIs I g) PySem.F.slot_dict_getitem.lookup (d_getItem hu I g ry fun w' s3 I3 rw' => ⟨z, H, I3, rw', q⟩) hs
theorem atI_rep {K : PySem.W.Frag} {G : Gh} {H : Hp} {xs : List PV} {us : List V} {i : Int} {p : PV} (r : RepVs K G H xs us) (h : atI xs i = some p) : ∃ v, atI us i = some v ∧ RepV K G H p v := by
  unfold atI at h ⊢
  rw [← r.length]
  cases e : ixN xs.length i with
  | none => rw [e] at h; cases h
  | some j =>
    rw [e] at h
    exact r.get h
@[simp] def opIx : Op2 := fun x y M => match y with
  | .v (.int i) => match x with
    | .v (.tup xs) => (atI xs i).map .v
    | .v (.str z) => if z.length ≤ sizeLine then (atI z.cps.toList i).map fun c => .v (.str ⟨#[c]⟩) else none
    | x => match asLst M x with
      | some xs => (atI xs i).map .v
      | none => match asDct M x with
        | some (ks, xs) => (dGet ks xs (.inl i)).map .v
        | none => none
  | .v (.str t) => match asDct M x with
    | some (ks, xs) => (dGet ks xs (.inr t)).map .v
    | none => none
  | _ => none
theorem rd_dget {H : Hp} {a : Addr} {kvs : List (Key × V)} {k : Key} (e : Rd H a (.dK kvs)) : DGet H a (kV k) (valV kvs k) := .inl ⟨kvs, k, e, rfl, rfl⟩
theorem opIx_ok : Op2Ok X (fun x y H Q => rIx X.K x y H Q ∨ ∃ a v, x = .ref a ∧ DGet H a y (some v) ∧ Q v H) opIx := by
  intro E s G M H H0 x y u v ev Q R d rx ry e q
  have fin : ∀ {p : PV} {w : V}, ev = .v p → RepV X.K G H p w → Q w H := fun {p w} e r => q G H w (Evo.refl _ _ _ _) R (by subst e; exact r)
  have dict : ∀ {ks xs k}, asDct M x = some (ks, xs) → (dGet ks xs k).map EV.v = some ev → v = kV k → rIx X.K u v H Q ∨ ∃ a w, u = .ref a ∧ DGet H a v (some w) ∧ Q w H := fun {ks xs k} e1 e2 ev' => by
    obtain ⟨a, kvs, rfl, hr, hk, rr, z⟩ := dct_of R rx e1
    have g := dGet_rep k hk rr
    cases e3 : dGet ks xs k with
    | none => rw [e3] at e2; cases e2
    | some p =>
      rw [e3] at e2 g
      cases e2
      obtain ⟨w, h1, h2⟩ := g
      exact .inr ⟨a, w, rfl, by rw [ev', ← h1]; exact rd_dget hr, fin rfl h2⟩
  simp only [opIx] at e
  split at e
  · rename_i i
    have ey := repE_int ry
    split at e
    · rename_i xs
      obtain ⟨a, us, rfl, ha, ra, za⟩ := repE_tup rx
      cases e3 : atI xs i with
      | none => rw [e3] at e; cases e
      | some p =>
        rw [e3] at e; cases e
        obtain ⟨w, h1, h2⟩ := atI_rep ra e3
        exact .inl (.inr (.inl ⟨a, us, i, w, rfl, ey, ha, h1, fin rfl h2⟩))
    · rename_i z
      split at e
      · rename_i hz
        cases e3 : atI z.cps.toList i with
        | none => rw [e3] at e; cases e
        | some c =>
          rw [e3] at e; cases e
          exact .inl (.inr (.inr ⟨z, i, c, repE_str rx, ey, hz, e3, fin rfl (by simp only [RepV])⟩))
      · cases e
    · split at e
      · rename_i xs e1
        obtain ⟨a, us, rfl, ha, ra, za⟩ := lst_of R rx e1
        cases e3 : atI xs i with
        | none => rw [e3] at e; cases e
        | some p =>
          rw [e3] at e; cases e
          obtain ⟨w, h1, h2⟩ := atI_rep ra e3
          exact .inl (.inl ⟨a, us, i, w, rfl, ey, ha, h1, fin rfl h2⟩)
      · split at e
        · rename_i e1
          exact dict e1 e ey
        · cases e
  · rename_i t
    split at e
    · rename_i e1
      exact dict e1 e (repE_str ry)
    · cases e
  · cases e
theorem fe_ix (A : Amb Z X W N sc fs k) {a b : Expr} {f g : Sm EV} {pos : Pos} (ha : FE X E W a f) (hb : FE X E W b g) (hs : PlainIx b := by exact fun _ _ => rfl) : FE X E W (.Subscript a b pos) (e2 opIx f g) :=
  ⟨PE.weak (pe_ix (ix_seq.or (ix_dict A.u1)) ha.pe hb.pe hs) fun _ _ _ h => tE_two opIx_ok h⟩

/-! ### slices -/
@[simp] def oNo : Sm (Option Int) := fun M => .ok none M
@[simp] def oSome (f : Sm EV) : Sm (Option Int) := fun M => (f M).bnd fun x M1 => match x with
  | .v (.int i) => .ok (some i) M1
  | _ => .bad
def tO (X : Cx) (E : Ent) (W : WX) (f : Sm (Option Int)) : TO := fun s H Q => ∃ G M, StRep X.K E G M s H ∧ OutP X E W s G M H (f M) fun _ _ H' b => Q b H'
structure FO (X : Cx) (E : Ent) (W : WX) (e : Option Expr) (f : Sm (Option Int)) : Prop where
  run : ∃ t, L2.PO X e t ∧ ∀ s H Q, tO X E W f s H Q → t s H Q
theorem fo_none : FO X E W none oNo := ⟨_, po_none, fun s H Q ⟨G, M, R, h⟩ => h.now R⟩
theorem fo_some {e : Expr} {f : Sm EV} (h : FE X E W e f) : FO X E W (some e) (oSome f) := by
  refine ⟨_, po_some h.pe, ?_⟩
  rintro s H Q ⟨G, M, R, h⟩
  refine tE_one R h fun G1 M1 H1 x u V1 R1 rx h1 => ?_
  split at h1
  · exact ⟨_, repE_int rx, OutP.now h1 R1⟩
  · exact False.elim h1
def cutP {α : Type} (xs : List α) (lo hi : Option Int) : List α := (xs.drop (HT.sIx xs.length 0 lo)).take (HT.sIx xs.length xs.length hi - HT.sIx xs.length 0 lo)
theorem cutP_rep {K : PySem.W.Frag} {G : Gh} {H : Hp} {xs : List PV} {us : List V} (r : RepVs K G H xs us) (lo hi : Option Int) : RepVs K G H (cutP xs lo hi) (cutV us lo hi) := by
  unfold cutP cutV
  rw [r.length]
  exact (r.drop _).take _
@[simp] def opSl (x : EV) (lo hi : Option Int) (M : Mem) : Option EV := match x with
  | .v (.tup xs) => some (.v (.tup (cutP xs lo hi)))
  | .v (.str z) => if z.length ≤ sizeLine then some (.v (.str (cutS z lo hi))) else none
  | x => match asLst M x with
    | some xs => some (.fr (.lst (cutP xs lo hi)))
    | none => none
@[simp] def eSl (f : Sm EV) (l h : Sm (Option Int)) : Sm EV := fun M => (f M).bnd fun x M1 => (l M1).bnd fun lo M2 => (h M2).bnd fun hi M3 => optR (opSl x lo hi M3) M3
theorem fe_slice {a : Expr} {lo hi : Option Expr} {f : Sm EV} {l h : Sm (Option Int)} {pos p2 : Pos} (ha : FE X E W a f) (hl : FO X E W lo l) (hh : FO X E W hi h) : FE X E W (.Subscript a (.Slice lo hi none p2) pos) (eSl f l h) := by
  obtain ⟨tl, pl, il⟩ := hl.run
  obtain ⟨th, ph, ih⟩ := hh.run
  refine ⟨PE.weak (pe_slice (sl_list.or (sl_tupA.or sl_str)) ha.pe pl ph) ?_⟩
  rintro s H Q ⟨G, M, R, h⟩
  refine tE_one R h fun G1 M1 H1 x u V1 R1 rx h1 => ?_
  refine il _ _ _ ⟨G1, M1, R1, h1.bnd.imp fun G2 M2 H2 lo V2 R2 h2 => ?_⟩
  refine ih _ _ _ ⟨G2, M2, R2, h2.bnd.imp fun G3 M3 H3 hi V3 R3 h3 => ?_⟩
  replace rx := (rx.evo V2).evo V3
  have V := (V1.trans V2).trans V3
  clear h1 h2
  cases e : opSl x lo hi M3 with
  | none => rw [e] at h3; exact False.elim h3
  | some ev =>
    rw [e] at h3
    simp only [opSl] at e
    split at e
    · rename_i xs
      cases e
      obtain ⟨a, us, rfl, ha, ra, za⟩ := repE_tup rx
      refine .inr (.inl ⟨a, us, rfl, ha, fun hw => ?_, fun hw p hp => ?_⟩)
      · refine OutP.now h3 R3 _ ?_
        have e2 : cutP xs lo hi = xs := by
          unfold cutP
          rw [ra.length, hw.1, hw.2, ← ra.length]
          simp
        rw [e2]
        exact rx
      · obtain ⟨V4, R4, r4⟩ := rep_newtup R3 (cutP_rep ra lo hi) (Nat.le_trans (cutV_length _ _ _) za) hp
        exact h3 _ _ V4 R4 _ r4
    · split at e
      · rename_i z hz
        cases e
        exact .inr (.inr ⟨z, repE_str rx, hz, OutP.now h3 R3 _ (show RepV X.K G3 H3 (.str (cutS z lo hi)) _ by simp only [RepV])⟩)
      · cases e
    · split at e
      · rename_i xs e1
        cases e
        obtain ⟨a, us, rfl, ha, ra, za⟩ := lst_of R3 rx e1
        refine .inl ⟨a, us, rfl, ha, fun p hp => ?_⟩
        obtain ⟨V4, R4, r4⟩ := rep_newlst (H0 := H) R3 V.dom (cutP_rep ra lo hi) (Nat.le_trans (cutV_length _ _ _) za) hp
        exact h3 _ _ V4 R4 _ r4
      · cases e
end
end HF

end
section
set_option Elab.async false
set_option linter.all false
set_option maxRecDepth 20000
set_option autoImplicit false
/-! HF6: statements, targets, loops, a def by its body, the call of a def. -/
namespace HF
open PySem PySem.Spec PyProof.Rows L2

/-- a statement's end -/
inductive SR where
  | nx (M : Mem)
  | ret (e : EV) (M : Mem)
  | brk (M : Mem)
  | cnt (M : Mem)
  | exn (c : Str) (M : Mem)
  | bad
abbrev Ss := Mem → SR
@[simp] def Res.st {α : Type} (x : Res α) (f : α → Mem → SR) : SR := match x with
  | .ok a M => f a M
  | .exn c M => .exn c M
  | .bad => .bad
@[simp] def SR.sq (x : SR) (f : Ss) : SR := match x with
  | .nx M => f M
  | .ret e M => .ret e M
  | .brk M => .brk M
  | .cnt M => .cnt M
  | .exn c M => .exn c M
  | .bad => .bad
section
variable (X : Cx) (E : Ent) (W : WX)
def SOut (D : Ends) (G : Gh) (H : Hp) (r : SR) : Prop := match r with
  | .nx M' => ∀ G' s' H', Ext G H G' H' → StRep X.K E G' M' s' H' → D.nx s' H'
  | .ret e M' => ∀ G' s' H' u, StRep X.K E G' M' s' H' → RepE X.K E E.H G' M' s' H' e u → D.rt u H'
  | .brk M' => ∀ G' s' H', Ext G H G' H' → StRep X.K E G' M' s' H' → D.bk s' H'
  | .cnt M' => ∀ G' s' H', Ext G H G' H' → StRep X.K E G' M' s' H' → D.ct s' H'
  | .exn c M' => ∀ G' s' H' C, StRep X.K E G' M' s' H' → X.mg c = some (.ref C) → W (.ref C) none s' H'
  | .bad => False
def tS (f : Ss) : TS := fun D s H => ∃ G M, StRep X.K E G M s H ∧ SOut X E W D G H (f M)
structure FS (st : Stmt) (f : Ss) : Prop where
  ps : PS X st (tS X E W f)
structure FSs (st : List Stmt) (f : Ss) : Prop where
  ps : PSs X st (tS X E W f)
end
section
variable {X : Cx} {E : Ent} {W : WX} {N : List Str} {sc : Scope} {fs : Str → Bool} {k : Nat} {Z : Wd}
theorem SOut.nxt {D : Ends} {M : Mem} {G : Gh} {H : Hp} (h : SOut X E W D G H (.nx M)) {s : L2.St} (R : StRep X.K E G M s H) : D.nx s H := h G s H (Ext.refl _ _) R
/-- from a later place -/
theorem SOut.late {D : Ends} {r : SR} {G G1 : Gh} {H H1 : Hp} (h : SOut X E W D G H r) (x : Ext G H G1 H1) : SOut X E W D G1 H1 r := by
  cases r with
  | nx M1 => exact fun G' s' H' x' R => h G' s' H' (x.trans x') R
  | ret e M1 => exact h
  | brk M1 => exact fun G' s' H' x' R => h G' s' H' (x.trans x') R
  | cnt M1 => exact fun G' s' H' x' R => h G' s' H' (x.trans x') R
  | exn c M1 => exact h
  | bad => exact h
/-- an expression's run within a statement -/
theorem OutP.st {α : Type} {D : Ends} {s : L2.St} {G : Gh} {M : Mem} {H : Hp} {r : Res α} {f : α → Mem → SR} (h : SOut X E W D G H (r.st f)) : OutP X E W s G M H r fun G1 M1 H1 a => SOut X E W D G1 H1 (f a M1) := by
  cases r with
  | ok a M1 => exact fun G' H' V R => SOut.late h V.ext
  | exn c M1 => exact fun G' H' C R m => h G' s H' C R m
  | bad => exact h
theorem tE_st {D : Ends} {f : Sm EV} {g : EV → Mem → SR} {s : L2.St} {G : Gh} {M : Mem} {H : Hp} {Q : V → Hp → Prop} (R : StRep X.K E G M s H) (h : SOut X E W D G H ((f M).st g))
    (i : ∀ G1 M1 H1 a u, Evo s G M H G1 M1 H1 → StRep X.K E G1 M1 s H1 → RepE X.K E H G1 M1 s H1 a u → SOut X E W D G1 H1 (g a M1) → Q u H1) : tE X E W f s H Q :=
  ⟨G, M, R, (OutP.st h).imp fun G1 M1 H1 a V1 R1 q u ru => i G1 M1 H1 a u V1 R1 ru q⟩
theorem tP_st {D : Ends} {f : Sm PV} {g : PV → Mem → SR} {s : L2.St} {G : Gh} {M : Mem} {H : Hp} {Q : V → Hp → Prop} (R : StRep X.K E G M s H) (h : SOut X E W D G H ((f M).st g))
    (i : ∀ G1 M1 H1 a u, Evo s G M H G1 M1 H1 → StRep X.K E G1 M1 s H1 → RepV X.K G1 H1 a u → SOut X E W D G1 H1 (g a M1) → Q u H1) : tP X E W f s H Q :=
  ⟨G, M, R, (OutP.st h).imp fun G1 M1 H1 a V1 R1 q u ru => i G1 M1 H1 a u V1 R1 ru q⟩
theorem tB_st {D : Ends} {f : Sm Bool} {g : Bool → Mem → SR} {s : L2.St} {G : Gh} {M : Mem} {H : Hp} {Q : Bool → Hp → Prop} (R : StRep X.K E G M s H) (h : SOut X E W D G H ((f M).st g))
    (i : ∀ G1 M1 H1 a, Evo s G M H G1 M1 H1 → StRep X.K E G1 M1 s H1 → SOut X E W D G1 H1 (g a M1) → Q a H1) : tB' X E W f s H Q :=
  ⟨G, M, R, (OutP.st h).imp fun G1 M1 H1 a V1 R1 q => i G1 M1 H1 a V1 R1 q⟩

/-! ### rows of statements -/
@[simp] def sNop : Ss := fun M => .nx M
@[simp] def sSeq (f g : Ss) : Ss := fun M => (f M).sq g
theorem fss_nil : FSs X E W [] sNop := by
  refine ⟨PSs.weak pss_nil ?_⟩
  rintro D s H ⟨G, M, R, h⟩
  exact h.nxt R
theorem SOut.sq {D : Ends} {r : SR} {g : Ss} {G : Gh} {H : Hp} (h : SOut X E W D G H (r.sq g)) : SOut X E W { D with nx := tS X E W g D } G H r := by
  cases r with
  | nx M1 => exact fun G' s' H' x R => ⟨G', M1, R, SOut.late h x⟩
  | ret e M1 => exact h
  | brk M1 => exact h
  | cnt M1 => exact h
  | exn c M1 => exact h
  | bad => exact h
theorem fss_cons {st : Stmt} {rest : List Stmt} {f g : Ss} (h : FS X E W st f) (h' : FSs X E W rest g) : FSs X E W (st :: rest) (sSeq f g) := by
  refine ⟨PSs.weak (pss_cons h.ps h'.ps) ?_⟩
  rintro D s H ⟨G, M, R, hh⟩
  exact ⟨G, M, R, hh.sq⟩
theorem fss_one {st : Stmt} {f : Ss} (h : FS X E W st f) : FSs X E W [st] f := ⟨pss_one h.ps⟩
/-- slots that nothing asks any more -/
@[simp] def forget (ws : List Nat) (M : Mem) : Mem := ⟨ws.foldl (fun r i => r.set i none) M.r, M.h⟩
theorem StRep.forget {K : PySem.W.Frag} {G : Gh} {M : Mem} {s : L2.St} {H : Hp} (R : StRep K E G M s H) (ws : List Nat) : StRep K E G (HF.forget ws M) s H := by
  obtain ⟨r, h⟩ := M
  show StRep K E G ⟨ws.foldl (fun r i => r.set i none) r, h⟩ s H
  induction ws generalizing r with
  | nil => exact R
  | cons w ws ih =>
    refine ih (r.set w none) ?_
    refine R.slots (by simp) fun i x e => ?_
    by_cases z : w = i
    · subst z
      by_cases lt : w < r.length
      · rw [List.getElem?_set_self lt] at e; cases e
      · rw [List.getElem?_eq_none (by simpa using lt)] at e; cases e
    · rw [List.getElem?_set_ne z] at e; exact .inl e
@[simp] def sFor (ws : List Nat) (f : Ss) : Ss := fun M => (f M).sq fun M1 => .nx (forget ws M1)
theorem fs_forget {st : Stmt} {f : Ss} (ws : List Nat) (h : FS X E W st f) : FS X E W st (sFor ws f) := by
  refine ⟨PS.weak h.ps ?_⟩
  rintro D s H ⟨G, M, R, hh⟩
  refine ⟨G, M, R, ?_⟩
  simp only [sFor] at hh
  generalize f M = q at hh
  cases q with
  | nx M1 => exact fun G' s' H' x R' => hh G' s' H' x (R'.forget ws)
  | ret e M1 => exact hh
  | brk M1 => exact hh
  | cnt M1 => exact hh
  | exn c M1 => exact hh
  | bad => exact hh

/-! ### stores -/
theorem StRep.setV {K : PySem.W.Frag} {G : Gh} {M : Mem} {s : L2.St} {H : Hp} (R : StRep K E G M s H) (i : Nat) {p : PV} {u : V} (r : RepV K G H p u) : StRep K E G ⟨M.r.set i (some (.v p)), M.h⟩ (s.set i (some u)) H := by
  have lk : ∀ (j : Nat) (x : LV), (M.r.set i (some (.v p)))[j]? = some (some x) → (j = i ∧ x = .v p ∧ (s.set i (some u))[j]? = some (some u)) ∨ (M.r[j]? = some (some x) ∧ (s.set i (some u))[j]? = s[j]?) := fun j x e => by
    by_cases z : i = j
    · subst z
      by_cases lt : i < M.r.length
      · rw [List.getElem?_set_self lt] at e; cases e
        exact .inl ⟨rfl, rfl, List.getElem?_set_self (by rw [← R.len]; exact lt)⟩
      · rw [List.getElem?_eq_none (by simpa using lt)] at e; cases e
    · rw [List.getElem?_set_ne z] at e
      exact .inr ⟨e, List.getElem?_set_ne z⟩
  refine ⟨R.post, R.hp, by simp [R.len], fun j q e => ?_, fun j o e => ?_, fun j l o o' a e e' h h' => ?_⟩
  · rcases lk j _ e with ⟨_, z, z'⟩ | ⟨z, z'⟩
    · cases z; exact ⟨u, z', r⟩
    · rw [z']; exact R.slot j q z
  · rcases lk j _ e with ⟨_, z, z'⟩ | ⟨z, z'⟩
    · cases z
    · rw [z']; exact R.own j o z
  · rcases lk j _ e with ⟨_, z, z'⟩ | ⟨z, z'⟩
    · cases z
    · rcases lk l _ e' with ⟨_, y, y'⟩ | ⟨y, y'⟩
      · cases y
      · rw [z'] at h; rw [y'] at h'; exact R.sep j l o o' a z y h h'
theorem StRep.setO {K : PySem.W.Frag} {G : Gh} {M : Mem} {s : L2.St} {H : Hp} (R : StRep K E G M s H) (i : Nat) {o : PO} {a : Addr} {w : HO} (h1 : H a = some w) (ro : RepO K G H o w) (n : E.H a = none) (nf : ¬ G.F a) (nl : a ∉ G.al) (no : ¬ OwnAt M.r s a) :
    StRep K E G ⟨M.r.set i (some (.own o)), M.h⟩ (s.set i (some (.ref a))) H := by
  have lk : ∀ (j : Nat) (x : LV), (M.r.set i (some (.own o)))[j]? = some (some x) → (j = i ∧ x = .own o ∧ (s.set i (some (V.ref a)))[j]? = some (some (V.ref a))) ∨ (j ≠ i ∧ M.r[j]? = some (some x) ∧ (s.set i (some (V.ref a)))[j]? = s[j]?) := fun j x e => by
    by_cases z : i = j
    · subst z
      by_cases lt : i < M.r.length
      · rw [List.getElem?_set_self lt] at e; cases e
        exact .inl ⟨rfl, rfl, List.getElem?_set_self (by rw [← R.len]; exact lt)⟩
      · rw [List.getElem?_eq_none (by simpa using lt)] at e; cases e
    · rw [List.getElem?_set_ne z] at e
      exact .inr ⟨fun y => z y.symm, e, List.getElem?_set_ne z⟩
  refine ⟨R.post, R.hp, by simp [R.len], fun j q e => ?_, fun j o2 e => ?_, fun j l o2 o' b e e' h h' => ?_⟩
  · rcases lk j _ e with ⟨_, z, z'⟩ | ⟨_, z, z'⟩
    · cases z
    · rw [z']; exact R.slot j q z
  · rcases lk j _ e with ⟨_, z, z'⟩ | ⟨_, z, z'⟩
    · cases z; exact ⟨a, w, z', h1, ro, n, nf, nl⟩
    · rw [z']; exact R.own j o2 z
  · rcases lk j _ e with ⟨zi, z, z'⟩ | ⟨zi, z, z'⟩
    · rcases lk l _ e' with ⟨yi, y, y'⟩ | ⟨yi, y, y'⟩
      · rw [zi, yi]
      · rw [z'] at h; cases h
        rw [y'] at h'
        exact absurd ⟨l, o', y, h'⟩ no
    · rcases lk l _ e' with ⟨yi, y, y'⟩ | ⟨yi, y, y'⟩
      · rw [y'] at h'; cases h'
        rw [z'] at h
        exact absurd ⟨j, o2, z, h⟩ no
      · rw [z'] at h; rw [y'] at h'; exact R.sep j l o2 o' b z y h h'
def locB (sc : Scope) (fs : Str → Bool) (x : Str) : Bool := match sc.names.lookup x with
  | some .local => true
  | some .cell => fs x
  | _ => false
theorem locB_loc {x : Str} (h : locB sc fs x = true) : Loc sc x := by
  unfold locB at h
  split at h
  · rename_i e; exact .inl e
  · rename_i e; exact .inr e
  · cases h
theorem locB_fn (A : Amb Z X W N sc fs k) {x : Str} (h : locB sc fs x = true) : X.fn x = true ∨ X.env.scope.names.lookup x = some .local := by
  unfold locB at h
  split at h
  · rename_i e; exact .inr (by rw [A.hs]; exact e)
  · exact .inl (by rw [A.fn]; exact h)
  · cases h
/-- name = value -/
@[simp] def sSet (i : Nat) (f : Sm PV) : Ss := fun M => (f M).st fun p M1 => .nx ⟨M1.r.set i (some (.v p)), M1.h⟩
/-- name = a new thing, to be this name's alone -/
@[simp] def sOwn (i : Nat) (f : Sm EV) : Ss := fun M => (f M).st fun e M1 => match e with
  | .fr o => .nx ⟨M1.r.set i (some (.own o)), M1.h⟩
  | .v p => .nx ⟨M1.r.set i (some (.v p)), M1.h⟩
  | .sl _ => .bad
theorem set_tP {i : Nat} {f : Sm PV} {D : Ends} {s : L2.St} {H : Hp} (h : tS X E W (sSet i f) D s H) : tAsg (tP X E W f) (gName i) D s H := by
  obtain ⟨G, M, R, h⟩ := h
  exact tP_st R h fun G1 M1 H1 p u V1 R1 rp q => q.nxt (R1.setV i rp)
theorem set_tE {i : Nat} {f : Sm EV} {D : Ends} {s : L2.St} {H : Hp} (h : tS X E W (sOwn i f) D s H) : tAsg (tE X E W f) (gName i) D s H := by
  obtain ⟨G, M, R, h⟩ := h
  refine tE_st R h fun G1 M1 H1 e u V1 R1 re q => ?_
  cases e with
  | v p => exact SOut.nxt q (R1.setV i re)
  | fr o =>
    obtain ⟨a, w, rfl, h1, ro, n, nf, nl, no, _⟩ := re
    exact SOut.nxt q (R1.setO i h1 ro n nf nl no)
  | sl j => exact False.elim q
section
variable {e : Expr} {f : Sm EV} {pos pos' : Pos} {x : Str} {i : Nat}
theorem fs_set (A : Amb Z X W N sc fs k) {f : Sm PV} (hN : N[i]? = some x) (hl : locB sc fs x = true) (he : FP X E W e f) (hs : swapsWith e (some (.Name x pos')) pos.line X.env = pure false := by rfl) : FS X E W (.Assign [.Name x pos'] e pos) (sSet i f) :=
  ⟨PS.weak (ps_set (by rw [A.hN]; exact A.nd) (by rw [A.hN]; exact hN) (by rw [A.hs]; exact locB_loc hl) he.pe hs (locB_fn A hl)) fun _ _ _ h => set_tP h⟩
theorem fs_own (A : Amb Z X W N sc fs k) (hN : N[i]? = some x) (hl : locB sc fs x = true) (he : FE X E W e f) (hs : swapsWith e (some (.Name x pos')) pos.line X.env = pure false := by rfl) : FS X E W (.Assign [.Name x pos'] e pos) (sOwn i f) :=
  ⟨PS.weak (ps_set (by rw [A.hN]; exact A.nd) (by rw [A.hN]; exact hN) (by rw [A.hs]; exact locB_loc hl) he.pe hs (locB_fn A hl)) fun _ _ _ h => set_tE h⟩
end

/-! ### targets: a name, a tuple of names -/
inductive Pat where
  | nm (i : Nat)
  | tp (is : List Nat)
def gNames : List Nat → TGs
  | [] => gNil
  | i :: is => gCons (gName i) (gNames is)
def gPat (K : PySem.W.Frag) : Pat → TG
  | .nm i => gName i
  | .tp is => gTup K is.length (gNames is)
def Pat.slots : Pat → List Nat
  | .nm i => [i]
  | .tp is => is
structure FG (X : Cx) (tg : Expr) (pt : Pat) : Prop where
  pg : PG X tg (gPat X.K pt)
structure FGs (X : Cx) (tgs : List Expr) (is : List Nat) : Prop where
  pg : PGs X tgs (gNames is)
  len : tgs.length = is.length
@[simp] def setAll : List Nat → List PV → List (Option LV) → Option (List (Option LV))
  | [], [], r => some r
  | i :: is, p :: ps, r => setAll is ps (r.set i (some (.v p)))
  | _, _, _ => none
@[simp] def asgPat : Pat → PV → List (Option LV) → Option (List (Option LV))
  | .nm i, p, r => some (r.set i (some (.v p)))
  | .tp is, .tup ps, r => setAll is ps r
  | _, _, _ => none
section
variable {e : Expr} {es : List Expr} {pos : Pos} {x : Str} {i : Nat} {is : List Nat}
theorem fg_name (A : Amb Z X W N sc fs k) (hN : N[i]? = some x) (hl : locB sc fs x = true) : FG X (.Name x pos) (.nm i) := ⟨pg_name (by rw [A.hN]; exact A.nd) (by rw [A.hN]; exact hN) (by rw [A.hs]; exact locB_loc hl) (locB_fn A hl)⟩
theorem fgs_nil : FGs X [] [] := ⟨pgs_nil, rfl⟩
theorem fgs_cons (h : FG X e (.nm i)) (h' : FGs X es is) (hs : (assignEach (e :: es) X.env).map (·.2) = assign e X.env :: (assignEach es X.env).map (·.2) := by rfl) : FGs X (e :: es) (i :: is) := ⟨pgs_cons h.pg h'.pg hs, by simp [h'.len]⟩
theorem fg_tup (A : Amb Z X W N sc fs k) {kk} (h : FGs X es is) (hn : (assignEach es X.env).length = is.length := by rfl) (hst : (assignEach es X.env).findIdx? (·.1) = none := by rfl) : FG X (.Tuple es kk pos) (.tp is) := ⟨pg_tup A.calm h.pg hn hst⟩
end
theorem gNames_ok {G : Gh} {H : Hp} {K : PySem.W.Frag} : ∀ {is : List Nat} {ps : List PV} {us : List V} {M : Mem} {s : L2.St} {r' : List (Option LV)}, StRep K E G M s H → RepVs K G H ps us → setAll is ps M.r = some r' →
    ∃ s', StRep K E G ⟨r', M.h⟩ s' H ∧ (∀ Q : L2.St → Hp → Prop, Q s' H → gNames is us s H Q) ∧ ∀ j, j ∉ is → s'[j]? = s[j]?
  | [], ps, us, M, s, r', R, r, e => by
    cases ps with
    | cons p ps => cases e
    | nil =>
      cases e
      rw [RepVs.nil_iff.mp r]
      exact ⟨s, R, fun Q q => ⟨rfl, q⟩, fun j _ => rfl⟩
  | i :: is, ps, us, M, s, r', R, r, e => by
    cases ps with
    | nil => cases e
    | cons p ps =>
      obtain ⟨u, ws, rfl, rp, rs⟩ := RepVs.cons_iff.mp r
      obtain ⟨s', R', h1, h2⟩ := gNames_ok (R.setV i rp) rs e
      exact ⟨s', R', fun Q q => ⟨u, ws, rfl, h1 Q q⟩, fun j hj => by
        simp only [List.mem_cons, not_or] at hj
        rw [h2 j hj.2, List.getElem?_set_ne (fun z => hj.1 z.symm)]⟩
theorem setAll_len : ∀ {is : List Nat} {ps : List PV} {r r' : List (Option LV)}, setAll is ps r = some r' → is.length = ps.length
  | [], [], _, _, _ => rfl
  | i :: is, p :: ps, r, r', e => by simp [setAll_len (is := is) (ps := ps) e]
  | [], p :: ps, _, _, e => by cases e
  | i :: is, [], _, _, e => by cases e
theorem gPat_ok {G : Gh} {H : Hp} {K : PySem.W.Frag} {pt : Pat} {p : PV} {u : V} {M : Mem} {s : L2.St} {r' : List (Option LV)} (R : StRep K E G M s H) (r : RepV K G H p u) (e : asgPat pt p M.r = some r') :
    ∃ s', StRep K E G ⟨r', M.h⟩ s' H ∧ (∀ Q : L2.St → Hp → Prop, Q s' H → gPat K pt u s H Q) ∧ ∀ j, j ∉ pt.slots → s'[j]? = s[j]? := by
  cases pt with
  | nm i =>
    cases e
    exact ⟨_, R.setV i r, fun Q q => q, fun j hj => List.getElem?_set_ne (fun z => hj (by simp [Pat.slots, z]))⟩
  | tp is =>
    cases p with
    | tup ps =>
      obtain ⟨a, us, rfl, ht, rs, z⟩ := tup_of r
      obtain ⟨s', R', h1, h2⟩ := gNames_ok R rs e
      exact ⟨s', R', fun Q q => ⟨a, us, rfl, ht, by rw [← rs.length, ← setAll_len e], h1 Q q⟩, h2⟩
    | _ => cases e
/-- a, b = value -/
@[simp] def sPat (pt : Pat) (f : Sm PV) : Ss := fun M => (f M).st fun p M1 => match asgPat pt p M1.r with
  | some r' => .nx ⟨r', M1.h⟩
  | none => .bad
theorem fs_pat {tg e : Expr} {pt : Pat} {f : Sm PV} {pos : Pos} (hg : FG X tg pt) (he : FP X E W e f) (hs : swapsWithSole [tg] e pos.line X.env = pure false := by rfl) (hw : swappedStores [tg] e X.env = pure none := by rfl)
    (h1 : (assignEach [tg] X.env).map (·.2) = [assign tg X.env] := by rfl) : FS X E W (.Assign [tg] e pos) (sPat pt f) := by
  refine ⟨PS.weak (ps_asg he.pe hg.pg hs hw h1) ?_⟩
  rintro D s H ⟨G, M, R, h⟩
  refine tP_st R h fun G1 M1 H1 p u V1 R1 rp q => ?_
  cases e1 : asgPat pt p M1.r with
  | none => simp only [e1] at q; exact False.elim q
  | some r' =>
    simp only [e1] at q
    obtain ⟨s', R', h1, _⟩ := gPat_ok R1 rp e1
    exact h1 _ (q.nxt R')

/-! ### return, if, expressions, pass -/
@[simp] def sRet (f : Sm EV) : Ss := fun M => (f M).st fun e M1 => match e with
  | .sl i => match slotAt M1 i with
    | some (.own o) => .ret (.fr o) ⟨M1.r.set i none, M1.h⟩
    | _ => .bad
  | e => .ret e M1
theorem sl_free {K : PySem.W.Frag} {G : Gh} {M : Mem} {s : L2.St} {H : Hp} {i : Nat} {o : PO} (R : StRep K E G M s H) (ei : M.r[i]? = some (some (.own o))) :
    StRep K E G ⟨M.r.set i none, M.h⟩ s H ∧ ∀ a, s[i]? = some (some (.ref a)) → ¬ OwnAt (M.r.set i none) s a := by
  have lt : i < M.r.length := (List.getElem?_eq_some_iff.mp ei).1
  refine ⟨R.slots (by simp) fun j x ej => ?_, fun a e ⟨j, o2, e1, e2⟩ => ?_⟩
  · by_cases zj : i = j
    · subst zj; rw [List.getElem?_set_self lt] at ej; cases ej
    · rw [List.getElem?_set_ne zj] at ej; exact .inl ej
  · by_cases zj : i = j
    · subst zj; rw [List.getElem?_set_self lt] at e1; cases e1
    · rw [List.getElem?_set_ne zj] at e1
      exact zj (R.sep i j o o2 a ei e1 e e2)
section
variable {e : Expr} {f : Sm EV} {pos : Pos}
theorem fs_ret (he : FE X E W e f) : FS X E W (.Return (some e) pos) (sRet f) := by
  refine ⟨PS.weak (ps_ret he.pe) ?_⟩
  rintro D s H ⟨G, M, R, h⟩
  refine tE_st R h fun G1 M1 H1 x u V1 R1 rx q => ?_
  cases x with
  | v p => exact q G1 s H1 u R1 rx
  | fr o =>
    have hd : ∀ a, H a = none → E.H a = none := fun a z => R.post.dom a z
    exact q G1 s H1 u R1 (rx.old hd)
  | sl i =>
    simp only at q
    split at q
    · rename_i o eo
      have ei := slotAt_some eo
      obtain ⟨a, w, e1, h1, ro, n, nf, nl⟩ := R1.own i o ei
      have rx : s[i]? = some (some u) := rx
      rw [e1] at rx; cases rx
      obtain ⟨Rf, no⟩ := sl_free R1 ei
      exact q G1 s H1 _ Rf ⟨a, w, rfl, h1, ro, n, nf, nl, no a e1, n⟩
    · exact False.elim q
theorem fs_retN : FS X E W (.Return none pos) (fun M => .ret (.v .non) M) := by
  refine ⟨PS.weak ps_retN ?_⟩
  rintro D s H ⟨G, M, R, h⟩
  exact h G s H .non R (show RepV X.K G H .non _ by simp only [RepV])
@[simp] def sIf (c : Sm Bool) (f g : Ss) : Ss := fun M => (c M).st fun b M1 => if b = true then f M1 else g M1
theorem fs_if {c : Expr} {a b : List Stmt} {t : Sm Bool} {f g : Ss} (hc : FT X E W c t) (ha : FSs X E W a f) (hb : FSs X E W b g) : FS X E W (.If c a b pos) (sIf t f g) := by
  refine ⟨PS.weak (ps_if hc.pe ha.ps hb.ps) ?_⟩
  rintro D s H ⟨G, M, R, h⟩
  refine tB_st R h fun G1 M1 H1 b V1 R1 q => ?_
  cases b with
  | true =>
    rw [if_pos rfl] at q
    exact iteT ⟨G1, M1, R1, q⟩
  | false =>
    rw [if_neg Bool.false_ne_true] at q
    exact iteF ⟨G1, M1, R1, q⟩
@[simp] def sExp (f : Sm EV) : Ss := fun M => (f M).st fun _ M1 => .nx M1
theorem fs_exp (he : FE X E W e f) (hs : swapsWith e none pos.line X.env = pure false := by rfl) : FS X E W (.Expr e pos) (sExp f) := by
  refine ⟨PS.weak (ps_expr he.pe hs) ?_⟩
  rintro D s H ⟨G, M, R, h⟩
  exact tE_st R h fun G1 M1 H1 x u V1 R1 rx q => q.nxt R1
theorem fs_pass : FS X E W (.Pass pos) sNop := ⟨PS.weak ps_pass fun _ _ _ ⟨_, _, R, h⟩ => h.nxt R⟩
theorem fs_doc {x j pos'} : FS X E W (.Expr (.Constant (.str x) j pos) pos') sNop := ⟨PS.weak ps_doc fun _ _ _ ⟨_, _, R, h⟩ => h.nxt R⟩
theorem fs_brk : FS X E W (.Break pos) (fun M => .brk M) := ⟨PS.weak ps_break fun _ _ _ ⟨_, _, R, h⟩ => h _ _ _ (Ext.refl _ _) R⟩
theorem fs_cnt : FS X E W (.Continue pos) (fun M => .cnt M) := ⟨PS.weak ps_continue fun _ _ _ ⟨_, _, R, h⟩ => h _ _ _ (Ext.refl _ _) R⟩
end

/-! ### while -/
def whileL (c : Sm Bool) (b : Ss) (ws : List Nat) : Nat → Ss
  | 0, _ => .bad
  | n + 1, M => (c M).st fun t M1 => if t = true then (match b M1 with
      | .nx M2 => whileL c b ws n (forget ws M2)
      | .cnt M2 => whileL c b ws n (forget ws M2)
      | .brk M2 => .nx (forget ws M2)
      | r => r) else .nx M1
@[simp] def sWhile (c : Sm Bool) (b : Ss) (ws : List Nat) (n : Nat) : Ss := fun M => whileL c b ws n (forget ws M)
theorem fs_while (A : Amb Z X W N sc fs k) {c : Expr} {body : List Stmt} {t : Sm Bool} {b : Ss} {pos : Pos} (ws : List Nat) (n : Nat) (hc : FT X E W c t) (hb : FSs X E W body b) : FS X E W (.While c body [] pos) (sWhile t b ws n) := by
  refine ⟨PS.weak (ps_while A.po hc.pe hb.ps) ?_⟩
  rintro D s H ⟨G, M, R, h⟩
  refine ⟨fun m s H => ∃ G M, StRep X.K E G M s H ∧ SOut X E W D G H (whileL t b ws m M), ⟨n, G, _, R.forget ws, h⟩, ?_⟩
  rintro m s H ⟨G, M, R, h⟩
  cases m with
  | zero => exact False.elim h
  | succ m =>
    unfold whileL at h
    refine tB_st R h fun G1 M1 H1 t V1 R1 q => ?_
    cases t with
    | false =>
      rw [if_neg Bool.false_ne_true] at q
      exact iteF (q.nxt R1)
    | true =>
      rw [if_pos rfl] at q
      refine iteT ⟨fun s H => ∃ G M, StRep X.K E G M s H ∧ SOut X E W D G H (whileL t b ws m M), fun s' H' h' => ⟨m, Nat.lt_succ_self m, h'⟩, G1, M1, R1, ?_⟩
      generalize b M1 = r at q
      cases r with
      | nx M2 => exact fun G' s' H' x R' => ⟨G', _, R'.forget ws, SOut.late q x⟩
      | cnt M2 => exact fun G' s' H' x R' => ⟨G', _, R'.forget ws, SOut.late q x⟩
      | brk M2 => exact fun G' s' H' x R' => q G' s' H' x (R'.forget ws)
      | ret e M2 => exact q
      | exn c M2 => exact q
      | bad => exact q
end
end HF

end
section
set_option Elab.async false
set_option linter.all false
set_option maxRecDepth 20000
set_option autoImplicit false
/-! HF7: what is walked; for; list comprehensions. -/
namespace HF
open PySem PySem.Spec PyProof.Rows L2

/-- that what is walked stands as it stood -/
@[simp] def Chk (e : EV) (xs : List PV) (M : Mem) : Prop := match e with
  | .sl i => slotAt M i = some (.own (.lst xs))
  | .v (.ref r) => cellAt M r = some (.lst xs)
  | _ => True
def SameAt (e : EV) (s0 s : L2.St) : Prop := match e with
  | .sl i => s[i]? = s0[i]?
  | _ => True
structure Wk (K : PySem.W.Frag) (E : Ent) (e : EV) (xs : List PV) (s0 : L2.St) (J : It) (G0 : Gh) (H0 : Hp) : Prop where
  go : ∀ (i : Nat) G M s H, StRep K E G M s H → Ext G0 H0 G H → Chk e xs M → SameAt e s0 s → i < xs.length → J.go i H
  yld : ∀ (i : Nat) G M s H x H' p, StRep K E G M s H → Ext G0 H0 G H → Chk e xs M → SameAt e s0 s → xs[i]? = some p → J.yld i H x H' → ∃ G', Evo s G M H G' M H' ∧ StRep K E G' M s H' ∧ RepV K G' H' p x
  stop : ∀ (i : Nat) G M s H, StRep K E G M s H → Ext G0 H0 G H → Chk e xs M → SameAt e s0 s → xs.length ≤ i → J.stop i H
  sz : xs.length ≤ sizeLine
abbrev Src := EV × List PV
section
variable (X : Cx) (E : Ent) (W : WX)
def tI (f : Sm Src) : TI := fun s H R => ∃ G M, StRep X.K E G M s H ∧ OutP X E W s G M H (f M) fun G1 _ H1 sr => ∀ J, Wk X.K E sr.1 sr.2 s J G1 H1 → R J H1
structure FI (tg iter : Expr) (f : Sm Src) : Prop where
  pi : PI X tg iter (tI X E W f)
end
section
variable {X : Cx} {E : Ent} {W : WX} {N : List Str} {sc : Scope} {fs : Str → Bool} {k : Nat} {Z : Wd}
theorem PI.weak {tg iter : Expr} {t t' : TI} (h : PI X tg iter t) (i : ∀ s H R, t' s H R → t s H R) : PI X tg iter t' := ⟨fun pins s σ H R I q => h.run pins s σ H R I (i _ _ _ q)⟩
theorem PI.or {tg iter : Expr} {t t' : TI} (h : PI X tg iter t) (h' : PI X tg iter t') : PI X tg iter (fun s H R => t s H R ∨ t' s H R) :=
  ⟨fun pins s σ H R I q => q.elim (h.run pins s σ H R I) (h'.run pins s σ H R I)⟩

/-! ### sources -/
/-- a list that is seen in every later state -/
theorem wk_list {K : PySem.W.Frag} {e : EV} {xs : List PV} {s0 : L2.St} {G0 : Gh} {H0 : Hp} {a : Addr} (hz : xs.length ≤ sizeLine) (v : ∀ G M s H, StRep K E G M s H → Ext G0 H0 G H → Chk e xs M → SameAt e s0 s → ∃ us, SqL K H a us ∧ RepVs K G H xs us) : Wk K E e xs s0 (Itl K a) G0 H0 where
  go := fun i G M s H R x c sa lt => by
    obtain ⟨us, q, r⟩ := v G M s H R x c sa
    have lt' : i < us.length := by rw [← r.length]; exact lt
    exact ⟨us, us[i], q, List.getElem?_eq_getElem lt'⟩
  yld := fun i G M s H y H' p R x c sa e1 e2 => by
    obtain ⟨us, q, r⟩ := v G M s H R x c sa
    obtain ⟨rfl, h2⟩ := e2
    obtain ⟨w, h3, h4⟩ := r.get e1
    have := h2 us q
    rw [h3] at this; cases this
    exact ⟨G, Evo.refl _ _ _ _, R, h4⟩
  stop := fun i G M s H R x c sa le => by
    obtain ⟨us, q, r⟩ := v G M s H R x c sa
    exact ⟨us, q, by rw [← r.length]; exact le⟩
  sz := hz
theorem wk_tup {K : PySem.W.Frag} {e : EV} {xs : List PV} {s0 : L2.St} {G0 : Gh} {H0 : Hp} {a : Addr} (hz : xs.length ≤ sizeLine) (v : ∀ G M s H, StRep K E G M s H → Ext G0 H0 G H → ∃ us, SqT K H a us ∧ RepVs K G H xs us) : Wk K E e xs s0 (Itt K a) G0 H0 where
  go := fun i G M s H R x c sa lt => by
    obtain ⟨us, q, r⟩ := v G M s H R x
    have lt' : i < us.length := by rw [← r.length]; exact lt
    exact ⟨us, us[i], q, List.getElem?_eq_getElem lt'⟩
  yld := fun i G M s H y H' p R x c sa e1 e2 => by
    obtain ⟨us, q, r⟩ := v G M s H R x
    obtain ⟨rfl, h2⟩ := e2
    obtain ⟨w, h3, h4⟩ := r.get e1
    have := h2 us q
    rw [h3] at this; cases this
    exact ⟨G, Evo.refl _ _ _ _, R, h4⟩
  stop := fun i G M s H R x c sa le => by
    obtain ⟨us, q, r⟩ := v G M s H R x
    exact ⟨us, q, by rw [← r.length]; exact le⟩
  sz := hz
@[simp] def signsOf (z : Str) : List PV := z.cps.toList.map fun c => .str ⟨#[c]⟩
theorem wk_str {K : PySem.W.Frag} {e : EV} {z : Str} {s0 : L2.St} {G0 : Gh} {H0 : Hp} (hz : z.length ≤ sizeLine) : Wk K E e (signsOf z) s0 (Its z) G0 H0 where
  go := fun i G M s H R x c sa lt => by
    show i < z.cps.size
    simpa using lt
  yld := fun i G M s H y H' p R x c sa e1 e2 => by
    obtain ⟨rfl, c, h1, rfl⟩ := e2
    simp only [signsOf, List.getElem?_map, Array.getElem?_toList] at e1
    rw [h1] at e1; cases e1
    exact ⟨G, Evo.refl _ _ _ _, R, by simp only [RepV]⟩
  stop := fun i G M s H R x c sa le => by
    show z.cps.size ≤ i
    simpa using le
  sz := by simpa [Str.length] using hz
/-- of an expression: a list, a tuple, a text; a slot's own list stays the slot's -/
@[simp] def srcOf (f : Sm EV) : Sm Src := fun M => (f M).bnd fun e M1 => match e with
  | .v (.tup xs) => .ok (.v .non, xs) M1
  | .v (.str z) => if z.length ≤ sizeLine then .ok (.v .non, signsOf z) M1 else .bad
  | .v (.lst xs) => .ok (.v .non, xs) M1
  | .v (.rol xs) => .ok (.v .non, xs) M1
  | .fr (.lst xs) => .ok (.v .non, xs) M1
  | .v (.ref r) => match cellAt M1 r with
    | some (.lst xs) => .ok (.v (.ref r), xs) M1
    | _ => .bad
  | .sl i => match slotAt M1 i with
    | some (.own (.lst xs)) => .ok (.sl i, xs) M1
    | _ => .bad
  | _ => .bad
theorem fi_of {tg e : Expr} {f : Sm EV} (h : FE X E W e f) : FI X E W tg e (srcOf f) := by
  refine ⟨PI.weak (PI.or (pi_list h.pe) (PI.or (pi_tup h.pe) (pi_str h.pe))) ?_⟩
  rintro s H Q ⟨G, M, R, hh⟩
  cases hf : f M with
  | exn c M1 =>
    refine .inl ⟨G, M, R, ?_⟩
    rw [hf]
    simp only [srcOf, hf, Res.bnd] at hh
    exact hh
  | bad => simp only [srcOf, hf, Res.bnd] at hh; exact hh.elim
  | ok e M1 =>
    simp only [srcOf, hf, Res.bnd] at hh
    have lst : ∀ {e' : EV} {xs : List PV}, OutP X E W s G M H (.ok (e', xs) M1) (fun G1 _ H1 sr => ∀ J, Wk X.K E sr.1 sr.2 s J G1 H1 → Q J H1) →
        (∀ G1 H1 u, Evo s G M H G1 M1 H1 → StRep X.K E G1 M1 s H1 → RepE X.K E H G1 M1 s H1 e u → ∃ a us G2, u = .ref a ∧ SqL X.K H1 a us ∧ Evo s G M H G2 M1 H1 ∧ StRep X.K E G2 M1 s H1 ∧ Wk X.K E e' xs s (Itl X.K a) G2 H1) → iList X.K (tE X E W f) s H Q := fun {e' xs} h1 h2 => by
      refine ⟨G, M, R, ?_⟩
      rw [hf]
      intro G1 H1 V1 R1 u ru
      obtain ⟨a, us, G2, rfl, h3, V2, R2, w⟩ := h2 G1 H1 u V1 R1 ru
      exact ⟨a, rfl, ⟨us, h3⟩, h1 G2 H1 V2 R2 _ w⟩
    split at hh
    · rename_i xs
      refine .inr (.inl ⟨G, M, R, ?_⟩)
      rw [hf]
      intro G1 H1 V1 R1 u ru
      have ru : RepV X.K G1 H1 (.tup xs) u := ru
      simp only [RepV] at ru
      obtain ⟨a, us, rfl, ft, rr⟩ := ru
      exact ⟨a, rfl, ⟨us, ft.sq⟩, hh G1 H1 V1 R1 _ (wk_tup (by rw [rr.length]; exact ft.1) fun G' M' s' H' R' x => ⟨us, (ft.mono x).sq, RepVs.mono x _ _ rr⟩)⟩
    · rename_i z
      split at hh
      · rename_i hz
        refine .inr (.inr ⟨G, M, R, ?_⟩)
        rw [hf]
        intro G1 H1 V1 R1 u ru
        exact ⟨z, repE_str ru, hh G1 H1 V1 R1 _ (wk_str hz)⟩
      · exact hh.elim
    · rename_i xs
      refine .inl (lst hh fun G1 H1 u V1 R1 ru => ?_)
      have ru : RepV X.K G1 H1 (.lst xs) u := ru
      simp only [RepV] at ru
      obtain ⟨a, us, rfl, ⟨z, f1, f2⟩, rr⟩ := ru
      exact ⟨a, us, G1, rfl, .inl f2, V1, R1, wk_list (by rw [rr.length]; exact z) fun G' M' s' H' R' x _ _ => ⟨us, .inl (x.rd a _ f1 trivial f2), RepVs.mono x _ _ rr⟩⟩
    · rename_i xs
      refine .inl (lst hh fun G1 H1 u V1 R1 ru => ?_)
      have ru : RepV X.K G1 H1 (.rol xs) u := ru
      simp only [RepV] at ru
      obtain ⟨a, us, rfl, fl, rr⟩ := ru
      exact ⟨a, us, G1, rfl, fl.sq, V1, R1, wk_list (by rw [rr.length]; exact fl.1) fun G' M' s' H' R' x _ _ => ⟨us, (fl.mono x).sq, RepVs.mono x _ _ rr⟩⟩
    · rename_i xs
      refine .inl (lst hh fun G1 H1 u V1 R1 ru => ?_)
      obtain ⟨a, w, rfl, h1, ⟨us, rfl, z, rr⟩, n, nf, nl, no, ho⟩ := ru
      have x0 := G1.ext_fz H1 a
      exact ⟨a, us, G1.fz a, rfl, SqL.of h1, V1.frozen (.inl ho), R1.frozen h1 n nl no, wk_list (by rw [rr.length]; exact z) fun G' M' s' H' R' x _ _ => ⟨us, .inl (x.rd a _ (.inr rfl) trivial (.inl h1)), RepVs.mono (x0.trans x) _ _ rr⟩⟩
    · rename_i r
      split at hh
      · rename_i xs ec
        refine .inl (lst hh fun G1 H1 u V1 R1 ru => ?_)
        have ru : RepV X.K G1 H1 (.ref r) u := ru
        simp only [RepV] at ru
        obtain ⟨a, rfl, ha⟩ := ru
        obtain ⟨w, h1, us, rfl, z, rr⟩ := R1.cell ec ha
        exact ⟨a, us, G1, rfl, SqL.of h1, V1, R1, wk_list (by rw [rr.length]; exact z) fun G' M' s' H' R' x c _ => by
          obtain ⟨w, h1, us, rfl, z, rr⟩ := R'.cell (show cellAt M' r = some (.lst xs) from c) (x.al r a ha)
          exact ⟨us, SqL.of h1, rr⟩⟩
      · exact hh.elim
    · rename_i i
      split at hh
      · rename_i xs ec
        refine .inl (lst hh fun G1 H1 u V1 R1 ru => ?_)
        obtain ⟨a, w, e1, h1, ⟨us, rfl, z, rr⟩, _⟩ := R1.own i _ (slotAt_some ec)
        have ru : s[i]? = some (some u) := ru
        rw [e1] at ru; cases ru
        exact ⟨a, us, G1, rfl, SqL.of h1, V1, R1, wk_list (by rw [rr.length]; exact z) fun G' M' s' H' R' x c sa => by
          obtain ⟨b, w, e2, h1, ⟨us, rfl, z, rr⟩, _⟩ := R'.own i _ (slotAt_some (show slotAt M' i = some (.own (.lst xs)) from c))
          have sa : s'[i]? = s[i]? := sa
          rw [sa, e1] at e2; cases e2
          exact ⟨us, SqL.of h1, rr⟩⟩
      · exact hh.elim
    · exact hh.elim
/-! ranges -/
theorem wk_range {K : PySem.W.Frag} {s0 : L2.St} {lo : Int} {n : Nat} {G0 : Gh} {H0 : Hp} (hz : n ≤ sizeLine) : Wk K E (.v .non) ((List.range n).map fun (i : Nat) => .int (lo + (i : Int))) s0 (Itr lo n) G0 H0 where
  go := fun i G M s H R x _ sa lt => by
    show i < n
    simpa using lt
  yld := fun i G M s H y H' p R x _ sa e1 e2 => by
    obtain ⟨rfl, rfl⟩ := e2
    have lt : i < n := by
      have := (List.getElem?_eq_some_iff.mp e1).1
      simpa using this
    rw [List.getElem?_map, List.getElem?_range lt] at e1
    cases e1
    exact ⟨G, Evo.refl _ _ _ _, R, by simp only [RepV]⟩
  stop := fun i G M s H R x _ sa le => by
    show n ≤ i
    simpa using le
  sz := by simpa using hz
theorem wk_rangeC {K : PySem.W.Frag} {s0 : L2.St} {lo c : Int} {n : Nat} {G0 : Gh} {H0 : Hp} (hz : n ≤ sizeLine) : Wk K E (.v .non) ((List.range n).map fun (i : Nat) => .int (lo + (i : Int) * c)) s0 (Itc lo c n) G0 H0 where
  go := fun i G M s H R x _ sa lt => by
    show i < n
    simpa using lt
  yld := fun i G M s H y H' p R x _ sa e1 e2 => by
    obtain ⟨rfl, rfl⟩ := e2
    have lt : i < n := by
      have := (List.getElem?_eq_some_iff.mp e1).1
      simpa using this
    rw [List.getElem?_map, List.getElem?_range lt] at e1
    cases e1
    exact ⟨G, Evo.refl _ _ _ _, R, by simp only [RepV]⟩
  stop := fun i G M s H R x _ sa le => by
    show n ≤ i
    simpa using le
  sz := by simpa using hz
@[simp] def rgOk (i : Int) : Bool := decide (i.natAbs < 2 ^ 62)
theorem rgOk_of {i : Int} (h : rgOk i = true) : -(2 ^ 62) ≤ i ∧ i < 2 ^ 62 := by
  simp only [rgOk, decide_eq_true_eq] at h
  omega
@[simp] def srcR1 (f : Sm (List PV)) : Sm Src := fun M => (f M).bnd fun ps M1 => match ps with
  | [.int j] => if (rgOk j && decide (j.toNat ≤ sizeLine)) = true then .ok (.v .non, (List.range j.toNat).map fun (i : Nat) => .int (0 + (i : Int))) M1 else .bad
  | _ => .bad
@[simp] def srcR2 (f : Sm (List PV)) : Sm Src := fun M => (f M).bnd fun ps M1 => match ps with
  | [.int i, .int j] => if (rgOk i && rgOk j && decide ((j - i).toNat ≤ sizeLine)) = true then .ok (.v .non, (List.range (j - i).toNat).map fun (m : Nat) => .int (i + (m : Int))) M1 else .bad
  | _ => .bad
/-- how many turns a range upward has -/
def rgLen (i j c : Int) : Nat := (Builtin.Range.rangeSize i j c).toNat
def rg3Ok (i j c : Int) : Bool := rgOk i && rgOk j && decide (c ≠ 0) && decide (c.natAbs < 1073741824) && Builtin.Range.small i j c && decide (0 ≤ Builtin.Range.rangeSize i j c) && decide (rgLen i j c ≤ sizeLine)
@[simp] def srcR3 (f : Sm (List PV)) : Sm Src := fun M => (f M).bnd fun ps M1 => match ps with
  | [.int i, .int j, .int c] => if rg3Ok i j c = true then .ok (.v .non, (List.range (rgLen i j c)).map fun (m : Nat) => .int (i + (m : Int) * c)) M1 else .bad
  | _ => .bad
theorem ints_rep {K : PySem.W.Frag} {G : Gh} {H : Hp} {i : Int} {v : V} : RepV K G H (.int i) v ↔ v = .int i := by simp only [RepV]
section
variable {a b c : Expr} {tg : Expr} {p pos : Pos} {f : Sm (List PV)}
theorem fi_range1 (A : Amb Z X W N sc fs k) (hm : X.mg ("range" : Str) = none) (ha : FL X E W [a] f) (hg : sc.names.lookup ("range" : Str) = some .globalImplicit := by rfl) (hs : starEach [a] X.env = [(false, eval a X.env)] := by rfl) : FI X E W tg (.Call (.Name "range" p) [a] [] pos) (srcR1 f) := by
  refine ⟨PI.weak (pi_range1 (A.gl hg) hm ha.fa.pe hs) ?_⟩
  rintro s H Q ⟨G, M, R, h⟩
  refine ⟨G, M, R, h.bnd.imp fun G1 M1 H1 ps V1 R1 q us rr => ?_⟩
  split at q
  · rename_i j
    obtain ⟨u, ws, rfl, r1, r2⟩ := RepVs.cons_iff.mp rr
    rw [RepVs.nil_iff.mp r2, ints_rep.mp r1]
    split at q
    · rename_i z
      rw [Bool.and_eq_true] at z
      have zr := rgOk_of z.1
      refine ⟨j, rfl, zr.1, zr.2, ?_⟩
      exact q.now R1 _ (wk_range (of_decide_eq_true z.2))
    · exact False.elim q
  · exact False.elim q
theorem fi_range2 (A : Amb Z X W N sc fs k) (hm : X.mg ("range" : Str) = none) (ha : FL X E W [a, b] f) (hg : sc.names.lookup ("range" : Str) = some .globalImplicit := by rfl) (hs : starEach [a, b] X.env = [(false, eval a X.env), (false, eval b X.env)] := by rfl) (hs2 : starEach [b] X.env = [(false, eval b X.env)] := by rfl) :
    FI X E W tg (.Call (.Name "range" p) [a, b] [] pos) (srcR2 f) := by
  refine ⟨PI.weak (pi_range2 (A.gl hg) hm ha.fa.pe hs hs2) ?_⟩
  rintro s H Q ⟨G, M, R, h⟩
  refine ⟨G, M, R, h.bnd.imp fun G1 M1 H1 ps V1 R1 q us rr => ?_⟩
  split at q
  · rename_i i j
    obtain ⟨u, ws, rfl, r1, r2⟩ := RepVs.cons_iff.mp rr
    obtain ⟨u2, ws, rfl, r2, r3⟩ := RepVs.cons_iff.mp r2
    rw [RepVs.nil_iff.mp r3, ints_rep.mp r1, ints_rep.mp r2]
    split at q
    · rename_i z
      rw [Bool.and_eq_true, Bool.and_eq_true] at z
      have z1 := rgOk_of z.1.1
      have z2 := rgOk_of z.1.2
      exact ⟨i, j, rfl, ⟨z1.1, z1.2, z2.1, z2.2⟩, q.now R1 _ (wk_range (of_decide_eq_true z.2))⟩
    · exact False.elim q
  · exact False.elim q
theorem fi_range3 (A : Amb Z X W N sc fs k) (hm : X.mg ("range" : Str) = none) (ha : FL X E W [a, b, c] f) (hg : sc.names.lookup ("range" : Str) = some .globalImplicit := by rfl)
    (hs : starEach [a, b, c] X.env = (false, eval a X.env) :: starEach [b, c] X.env := by rfl) (hpl : (backTo pos (starEach [b, c] X.env)).any (fun x => x.1) = false := by rfl) :
    FI X E W tg (.Call (.Name "range" p) [a, b, c] [] pos) (srcR3 f) := by
  refine ⟨PI.weak (pi_range3 (A.gl hg) hm ha.fa.pe hs hpl) ?_⟩
  rintro s H Q ⟨G, M, R, h⟩
  refine ⟨G, M, R, h.bnd.imp fun G1 M1 H1 ps V1 R1 q us rr => ?_⟩
  split at q
  · rename_i i j c
    obtain ⟨u, ws, rfl, r1, r2⟩ := RepVs.cons_iff.mp rr
    obtain ⟨u2, ws, rfl, q2, r3⟩ := RepVs.cons_iff.mp r2
    obtain ⟨u3, ws, rfl, q3, r4⟩ := RepVs.cons_iff.mp r3
    rw [RepVs.nil_iff.mp r4, ints_rep.mp r1, ints_rep.mp q2, ints_rep.mp q3]
    split at q
    · rename_i z
      simp only [rg3Ok, Bool.and_eq_true, decide_eq_true_eq] at z
      obtain ⟨⟨⟨⟨⟨⟨z1, z2⟩, z3⟩, z4⟩, z5⟩, z6⟩, z7⟩ := z
      exact ⟨i, j, c, rgLen i j c, rfl, ⟨z3, z4, z5, by simp only [rgLen]; omega⟩, q.now R1 _ (wk_rangeC z7)⟩
    · exact False.elim q
  · exact False.elim q
end

/-! ### for -/
/-- what a turn comes to -/
inductive TR where
  | go (M : Mem)
  | out (r : SR)
@[simp] def forTurn (pt : Pat) (b : Ss) (ws : List Nat) (x : PV) (M : Mem) : TR := match asgPat pt x M.r with
  | none => .out .bad
  | some r' => match b ⟨r', M.h⟩ with
    | .nx M2 => .go (forget ws M2)
    | .cnt M2 => .go (forget ws M2)
    | .brk M2 => .out (.nx (forget ws M2))
    | z => .out z
open Classical in
noncomputable def forL (e : EV) (all : List PV) (pt : Pat) (b : Ss) (ws : List Nat) : List PV → Ss
  | [], M => if Chk e all M then .nx M else .bad
  | x :: r, M => if Chk e all M then (match forTurn pt b ws x M with
      | .go M' => forL e all pt b ws r M'
      | .out z => z) else .bad
@[simp] noncomputable def sForIn (f : Sm Src) (pt : Pat) (b : Ss) (ws : List Nat) : Ss := fun M => (f M).st fun sr M1 => forL sr.1 sr.2 pt b ws sr.2 (forget ws M1)
@[simp] def notSl (e : EV) : Bool := match e with
  | .sl _ => false
  | _ => true
theorem SameAt.of_not {e : EV} {s0 s : L2.St} (h : notSl e = true) : SameAt e s0 s := by
  cases e <;> first | trivial | cases h
/-- the source of a for: a slot's own list is frozen -/
@[simp] def srcP (f : Sm PV) : Sm Src := srcOf fun M => (f M).bnd fun p M1 => .ok (.v p) M1
theorem FP.fe {e : Expr} {f : Sm PV} (h : FP X E W e f) : FE X E W e (fun M => (f M).bnd fun p M1 => .ok (.v p) M1) := by
  refine ⟨PE.weak h.pe ?_⟩
  rintro s H Q ⟨G, M, R, hh⟩
  exact tP_one R hh fun G1 M1 H1 p u V1 R1 rp q => OutP.now q R1 u rp
structure NoSlot (f : Sm Src) : Prop where
  out : ∀ M a M', f M = .ok a M' → notSl a.1 = true
theorem srcP_ns {f : Sm PV} : NoSlot (srcP f) := by
  refine ⟨fun M a M' h => ?_⟩
  simp only [srcP, srcOf] at h
  cases hf : f M with
  | exn c M1 => rw [hf] at h; cases h
  | bad => rw [hf] at h; cases h
  | ok p M1 =>
    rw [hf] at h
    simp only [Res.bnd] at h
    cases p <;> simp only at h <;> first | (cases h; rfl) | (split at h <;> first | (cases h; rfl) | cases h) | cases h
theorem srcR1_ns {f : Sm (List PV)} : NoSlot (srcR1 f) := by
  refine ⟨fun M a M' h => ?_⟩
  simp only [srcR1] at h
  cases hf : f M with
  | exn c M1 => rw [hf] at h; cases h
  | bad => rw [hf] at h; cases h
  | ok p M1 =>
    rw [hf] at h
    simp only [Res.bnd] at h
    split at h
    · split at h
      · cases h; rfl
      · cases h
    · cases h
theorem srcR2_ns {f : Sm (List PV)} : NoSlot (srcR2 f) := by
  refine ⟨fun M a M' h => ?_⟩
  simp only [srcR2] at h
  cases hf : f M with
  | exn c M1 => rw [hf] at h; cases h
  | bad => rw [hf] at h; cases h
  | ok p M1 =>
    rw [hf] at h
    simp only [Res.bnd] at h
    split at h
    · split at h
      · cases h; rfl
      · cases h
    · cases h
theorem srcR3_ns {f : Sm (List PV)} : NoSlot (srcR3 f) := by
  refine ⟨fun M a M' h => ?_⟩
  simp only [srcR3] at h
  cases hf : f M with
  | exn c M1 => rw [hf] at h; cases h
  | bad => rw [hf] at h; cases h
  | ok p M1 =>
    rw [hf] at h
    simp only [Res.bnd] at h
    split at h
    · split at h
      · cases h; rfl
      · cases h
    · cases h
theorem fs_for (A : Amb Z X W N sc fs k) {tg iter : Expr} {body : List Stmt} {f : Sm Src} {pt : Pat} {b : Ss} {pos : Pos} (ws : List Nat) (hi : FI X E W tg iter f) (hn : NoSlot f) (hg : FG X tg pt) (hb : FSs X E W body b)
    (hs : ∀ x, foldedSetIterable iter X.env x = pure x := by intro _; rfl) : FS X E W (.For tg iter body [] pos) (sForIn f pt b ws) := by
  refine ⟨PS.weak (ps_for A.po A.calm hi.pi hg.pg hb.ps hs) ?_⟩
  rintro D s H ⟨G, M, R, h⟩
  refine ⟨G, M, R, ?_⟩
  cases hf : f M with
  | exn c M1 => simp only [sForIn, hf, Res.st] at h; exact fun G' H' C R' m => h G' s H' C R' m
  | bad => simp only [sForIn, hf, Res.st] at h; exact h
  | ok sr M1 =>
    obtain ⟨e, all⟩ := sr
    have ns := hn.out M _ M1 hf
    simp only [sForIn, hf, Res.st] at h
    intro G1 H1 V1 R1 J w
    have h1 : SOut X E W D G1 H1 (forL e all pt b ws all (forget ws M1)) := SOut.late h V1.ext
    refine ⟨fun i m s' H' => m = all.length - i ∧ i ≤ all.length ∧ ∃ G' M', StRep X.K E G' M' s' H' ∧ Ext G1 H1 G' H' ∧ SOut X E W D G' H' (forL e all pt b ws (all.drop i) M'), ⟨all.length, by simp, Nat.zero_le _, G1, _, R1.forget ws, Ext.refl _ _, by simpa using h1⟩, ?_⟩
    rintro i m s2 H2 ⟨rfl, hi, G2, M2, R2, x2, h2⟩
    by_cases lt : i < all.length
    · rw [List.drop_eq_getElem_cons lt] at h2
      unfold forL at h2
      split at h2
      · rename_i c
        refine .inr ⟨w.go i G2 M2 s2 H2 R2 x2 c (SameAt.of_not ns) lt, fun s' H' => ∃ G' M', StRep X.K E G' M' s' H' ∧ Ext G1 H1 G' H' ∧ SOut X E W D G' H' (forL e all pt b ws (all.drop (i + 1)) M'), fun s' H' h' => ⟨all.length - (i + 1), by omega, rfl, lt, h'⟩, fun y H' hy => ?_⟩
        obtain ⟨G3, V3, R3, r3⟩ := w.yld i G2 M2 s2 H2 y H' all[i] R2 x2 c (SameAt.of_not ns) (List.getElem?_eq_getElem lt) hy
        have h3 := SOut.late h2 V3.ext
        cases er : asgPat pt all[i] M2.r with
        | none => simp only [forTurn, er] at h3; exact h3.elim
        | some r' =>
          simp only [forTurn, er] at h3
          obtain ⟨s', R5, k1, _⟩ := gPat_ok R3 r3 er
          refine k1 _ ⟨G3, _, R5, ?_⟩
          have x3 := x2.trans V3.ext
          generalize b ⟨r', M2.h⟩ = q at h3 ⊢
          have key : ∀ {M5}, SOut X E W D G3 H' (forL e all pt b ws (all.drop (i + 1)) (forget ws M5)) → ∀ G' s' H2', Ext G3 H' G' H2' → StRep X.K E G' M5 s' H2' → ∃ G' M', StRep X.K E G' M' s' H2' ∧ Ext G1 H1 G' H2' ∧ SOut X E W D G' H2' (forL e all pt b ws (all.drop (i + 1)) M') :=
            fun hh G' s' H2' x R' => ⟨G', _, R'.forget ws, x3.trans x, SOut.late hh x⟩
          cases q with
          | nx M5 => exact fun G' s' H2' x R' => key h3 G' s' H2' x R'
          | cnt M5 => exact fun G' s' H2' x R' => key h3 G' s' H2' x R'
          | brk M5 => exact fun G' s' H2' x R' => h3 G' s' H2' x (R'.forget ws)
          | ret e M5 => exact h3
          | exn c M5 => exact h3
          | bad => exact h3
      · exact h2.elim
    · have e1 : i = all.length := by omega
      subst e1
      rw [List.drop_length] at h2
      unfold forL at h2
      split at h2
      · rename_i c
        exact .inl ⟨w.stop _ G2 M2 s2 H2 R2 x2 c (SameAt.of_not ns) (Nat.le_refl _), SOut.nxt h2 R2⟩
      · exact h2.elim

/-! ### list comprehensions -/
def noX {α : Type} : Res α → Res α
  | .ok a M => .ok a M
  | _ => .bad
/-- a turn of a comprehension: what is added, the state behind it -/
@[simp] def lcStep (pt : Pat) (vs : List Nat) (t : Sm Bool) (f : Sm PV) (x : PV) (M : Mem) : Option (Option PV × Mem) := match asgPat pt x M.r with
  | none => none
  | some r' => match t ⟨r', M.h⟩ with
    | .ok true M1 => (match f M1 with
      | .ok p M2 => some (some p, forget vs M2)
      | _ => none)
    | .ok false M1 => some (none, forget vs M1)
    | _ => none
open Classical in
noncomputable def lcL (e : EV) (all : List PV) (pt : Pat) (vs : List Nat) (t : Sm Bool) (f : Sm PV) : List PV → List PV → Mem → Option (List PV × Mem)
  | [], acc, M => if Chk e all M then some (acc, M) else none
  | x :: r, acc, M => if Chk e all M then (match lcStep pt vs t f x M with
      | some (some p, M') => lcL e all pt vs t f r (acc ++ [p]) M'
      | some (none, M') => lcL e all pt vs t f r acc M'
      | none => none) else none
@[simp] noncomputable def eLc (s : Sm Src) (pt : Pat) (vs : List Nat) (t : Sm Bool) (f : Sm PV) : Sm EV := fun M => (s M).bnd fun sr M1 => match lcL sr.1 sr.2 pt vs t f sr.2 [] (forget vs M1) with
  | some (ps, M2) => .ok (.fr (.lst ps)) M2
  | none => .bad
@[simp] def bYes : Sm Bool := fun M => .ok true M
/-- the block's tests -/
structure FTs (X : Cx) (E : Ent) (W : WX) (ifs : List Expr) (f : Sm Bool) : Prop where
  pe : PTs X ifs (tB' X E W f)
theorem fts_nil : FTs X E W [] bYes := by
  refine ⟨⟨fun pins s σ H Q I h => pts_nil.run pins s σ H Q I ?_⟩⟩
  obtain ⟨G, M, R, h⟩ := h
  exact h.now R
theorem fts_one {c : Expr} {f : Sm Bool} (h : FT X E W c f) : FTs X E W [c] f := ⟨pts_one h.pe⟩
abbrev W0 : WX := fun _ _ _ _ => False
/-- the block's place -/
theorem Amb.blk (A : Amb Z X W N sc fs k) (s : Shared) (H : Hp) (scope : Scope) (C : Addr) (cl : List (Str × Addr)) (fp : List Addr) :
    Amb Z (X.blk s H scope (compEnvC scope cl C X.env) fp) W0 N (relS scope sc) (fun x => scope.names.lookup x == some .cell) k := by
  refine ⟨A.hN, rfl, A.same, ?_, A.nd, A.calm, A.room, takes0, PassesOwn.never⟩
  show relabel scope X.env = _
  rw [← A.hs]
  rfl
theorem OwnAt.agree {r : List (Option LV)} {s s' : L2.St} {a : Addr} (h : ∀ (i : Nat) (x : LV), r[i]? = some (some x) → s'[i]? = s[i]?) : OwnAt r s' a ↔ OwnAt r s a :=
  ⟨fun ⟨i, o, e, e'⟩ => ⟨i, o, e, by rw [← h i _ e]; exact e'⟩, fun ⟨i, o, e, e'⟩ => ⟨i, o, e, by rw [h i _ e]; exact e'⟩⟩
theorem StRep.agree {K : PySem.W.Frag} {G : Gh} {M : Mem} {s s' : L2.St} {H : Hp} (R : StRep K E G M s H) (hl : s'.length = s.length) (h : ∀ (i : Nat) (x : LV), M.r[i]? = some (some x) → s'[i]? = s[i]?) : StRep K E G M s' H := by
  refine ⟨R.post, R.hp, by rw [hl]; exact R.len, fun i p e => ?_, fun i o e => ?_, fun i j o o' a e e' h1 h2 => ?_⟩
  · rw [h i _ e]; exact R.slot i p e
  · rw [h i _ e]; exact R.own i o e
  · rw [h i _ e] at h1; rw [h j _ e'] at h2; exact R.sep i j o o' a e e' h1 h2
theorem forget_get {vs : List Nat} {r : List (Option LV)} : ∀ {i : Nat} {x : LV}, (vs.foldl (fun r i => r.set i none) r)[i]? = some (some x) → r[i]? = some (some x) ∧ i ∉ vs := by
  induction vs generalizing r with
  | nil => intro i x h; exact ⟨h, by simp⟩
  | cons v vs ih =>
    intro i x h
    obtain ⟨h1, h2⟩ := ih h
    by_cases z : v = i
    · subst z
      by_cases lt : v < r.length
      · rw [List.getElem?_set_self lt] at h1; cases h1
      · rw [List.getElem?_eq_none (by simpa using lt)] at h1; cases h1
    · rw [List.getElem?_set_ne z] at h1
      exact ⟨h1, by simp only [List.mem_cons, not_or]; exact ⟨fun e => z e.symm, h2⟩⟩
theorem forget_agree {vs : List Nat} {M : Mem} {s : L2.St} : ∀ (i : Nat) (x : LV), (forget vs M).r[i]? = some (some x) → (wipe s vs)[i]? = s[i]? := fun i x h => wipe_out (forget_get h).2
/-- an upd at an address that nothing holds -/
theorem StRep.upd {K : PySem.W.Frag} {G : Gh} {M : Mem} {s : L2.St} {H : Hp} (R : StRep K E G M s H) {p : Addr} (o : HO) (eh : E.H p = none) (nf : ¬ G.F p) (na : p ∉ G.al) (no : ¬ OwnAt M.r s p) : StRep K E G M s (L2.upd H p o) := by
  have x := ext_upd (H := H) (o := o) nf
  refine ⟨post_upd R.post nf (.inr eh), hprep_upd R.hp nf na, R.len, fun i q e => ?_, fun i ob e => ?_, R.sep⟩
  · obtain ⟨u, h1, h2⟩ := R.slot i q e
    exact ⟨u, h1, RepV.mono x _ _ h2⟩
  · obtain ⟨a, u, h1, h2, h3, h4⟩ := R.own i ob e
    exact ⟨a, u, h1, by rw [L2.upd_ne (fun (z : a = p) => no ⟨i, ob, e, by rw [← z]; exact h1⟩)]; exact h2, h3.mono x, h4⟩
theorem Evo.upd {s : L2.St} {G0 G : Gh} {M0 M : Mem} {H0 H : Hp} (V : Evo s G0 M0 H0 G M H) {p : Addr} (o : HO) (h : H0 p = none) (nf : ¬ G.F p) : Evo s G0 M0 H0 G M (L2.upd H p o) := by
  refine ⟨V.ext.trans (ext_upd nf), fun a u e n f ow => ?_, V.own, fun a e => ?_⟩
  · obtain ⟨h1, h2, h3⟩ := V.keep a u e n f ow
    exact ⟨by rw [L2.upd_ne (ne_of_none e h)]; exact h1, h2, h3⟩
  · by_cases z : a = p
    · subst z; rw [upd_same] at e; cases e
    · rw [L2.upd_ne z] at e; exact V.dom a e
theorem wipe_agree {s s' : L2.St} {vs : List Nat} (hl : s'.length = s.length) (h : ∀ j, j ∉ vs → s'[j]? = s[j]?) : wipe s' vs = wipe s vs := by
  apply List.ext_getElem?
  intro j
  by_cases hj : j ∈ vs
  · have none_at : ∀ (t : L2.St) (vs : List Nat), j ∈ vs → (wipe t vs)[j]? = if j < t.length then some none else none := fun t vs => by
      induction vs with
      | nil => intro h; simp at h
      | cons v vs ih =>
        intro h
        unfold wipe
        by_cases z : v = j
        · subst z
          rw [List.getElem?_set]
          simp [wipe_length]
        · rw [List.getElem?_set_ne z]
          exact ih ((List.mem_cons.mp h).resolve_left fun e => z e.symm)
    rw [none_at _ _ hj, none_at _ _ hj, hl]
  · rw [wipe_out hj, wipe_out hj, h j hj]
theorem wipe_wipe (s : L2.St) (vs : List Nat) : wipe (wipe s vs) vs = wipe s vs := wipe_agree (wipe_length _ _) fun j hj => wipe_out hj
theorem setAll_own : ∀ {is : List Nat} {ps : List PV} {r r' : List (Option LV)} {j : Nat} {o : PO}, setAll is ps r = some r' → r'[j]? = some (some (.own o)) → r[j]? = some (some (.own o))
  | [], [], r, r', j, o, e, h => by cases e; exact h
  | i :: is, p :: ps, r, r', j, o, e, h => by
    have h1 := setAll_own (is := is) (ps := ps) e h
    by_cases z : i = j
    · subst z
      by_cases lt : i < r.length
      · rw [List.getElem?_set_self lt] at h1; cases h1
      · rw [List.getElem?_eq_none (by simpa using lt)] at h1; cases h1
    · rw [List.getElem?_set_ne z] at h1; exact h1
  | [], p :: ps, _, _, _, _, e, _ => by cases e
  | i :: is, [], _, _, _, _, e, _ => by cases e
theorem asgPat_own {pt : Pat} {p : PV} {r r' : List (Option LV)} {j : Nat} {o : PO} (e : asgPat pt p r = some r') (h : r'[j]? = some (some (.own o))) : r[j]? = some (some (.own o)) := by
  cases pt with
  | nm i => exact setAll_own (is := [i]) (ps := [p]) (by simpa using e) h
  | tp is =>
    cases p with
    | tup ps => exact setAll_own e h
    | _ => cases e
theorem setAll_size : ∀ {is : List Nat} {ps : List PV} {r r' : List (Option LV)}, setAll is ps r = some r' → r'.length = r.length
  | [], [], r, r', e => by cases e; rfl
  | i :: is, p :: ps, r, r', e => by rw [setAll_size (is := is) (ps := ps) e, List.length_set]
  | [], p :: ps, _, _, e => by cases e
  | i :: is, [], _, _, e => by cases e
theorem asgPat_len {pt : Pat} {p : PV} {r r' : List (Option LV)} (e : asgPat pt p r = some r') : r'.length = r.length := by
  cases pt with
  | nm i => exact setAll_size (is := [i]) (ps := [p]) (by simpa using e)
  | tp is =>
    cases p with
    | tup ps => exact setAll_size e
    | _ => cases e
/-- the reading of a comprehension, from its meaning -/
theorem lc_ok {vs : List Nat} {f : Sm Src} {pt : Pat} {t : Sm Bool} {el : Sm PV} {s : L2.St} {H : Hp} {Q : VK} (X' : Cx) (hK : X'.K = X.K) (hp : ∀ i ∈ pt.slots, i ∈ vs) (h : tE X E W (eLc f pt vs t el) s H Q) :
    tLc (tI X E W f) (gPat X.K pt) (tB' X' E W0 t) (tP X' E W0 el) vs s H Q := by
  obtain ⟨G, M, R, h⟩ := h
  refine ⟨G, M, R, ?_⟩
  cases hf : f M with
  | exn c M1 => simp only [eLc, hf, Res.bnd] at h; exact h
  | bad => simp only [eLc, hf, Res.bnd] at h; exact h
  | ok sr M1 =>
    obtain ⟨e, all⟩ := sr
    simp only [eLc, hf, Res.bnd] at h
    intro G1 H1 V1 R1 J w D hD
    cases hl : lcL e all pt vs t el all [] (forget vs M1) with
    | none => rw [hl] at h; exact h.elim
    | some z =>
      obtain ⟨ps, Mf⟩ := z
      rw [hl] at h
      have sz : all.length ≤ all.length := Nat.le_refl _
      -- the block's start
      have Rw : StRep X.K E G1 (forget vs M1) (wipe s vs) H1 := (R1.forget vs).agree (wipe_length _ _) forget_agree
      obtain ⟨R2, _, eD, nfD, naD, noD⟩ := Rw.laid (.lst []) hD
      have V2 : Evo (wipe s vs) G1 (forget vs M1) H1 G1 (forget vs M1) (L2.upd H1 D (.lst [])) := (Evo.refl _ _ _ _).upd _ hD nfD
      refine ⟨fun i m H' => m = all.length - i ∧ i ≤ all.length ∧ ∃ G' M' acc us, StRep X.K E G' M' (wipe s vs) H' ∧ Evo (wipe s vs) G1 (forget vs M1) H1 G' M' H' ∧ H' D = some (.lst us) ∧ RepVs X.K G' H' acc us ∧ us.length ≤ i ∧
          E.H D = none ∧ ¬ G'.F D ∧ D ∉ G'.al ∧ ¬ OwnAt M'.r (wipe s vs) D ∧ (∀ j x, M'.r[j]? = some (some x) → j ∉ vs) ∧ lcL e all pt vs t el (all.drop i) acc M' = some (ps, Mf),
        ⟨all.length, by simp, Nat.zero_le _, G1, forget vs M1, [], [], R2, V2, upd_same, RepVs.nil, Nat.le_refl _, eD, nfD, naD, noD, fun j x e => (forget_get e).2, by simpa using hl⟩, ?_⟩
      rintro i m H3 ⟨rfl, hi, G3, M3, acc, us, R3, V3, hD3, racc, hus, eD3, nf3, na3, no3, out3, hl3⟩
      by_cases lt : i < all.length
      · rw [List.drop_eq_getElem_cons lt] at hl3
        unfold lcL at hl3
        split at hl3
        · rename_i c
          have sa : SameAt e s (wipe s vs) := by
            cases e with
            | sl j =>
              have c : slotAt M3 j = some (.own (.lst all)) := c
              exact wipe_out (out3 j _ (slotAt_some c))
            | v p => trivial
            | fr o => trivial
          have x3 : Ext G1 H1 G3 H3 := V3.ext
          refine .inr ⟨w.go i G3 M3 _ H3 R3 x3 c sa lt, fun H' => ∃ G' M' acc us, StRep X.K E G' M' (wipe s vs) H' ∧ Evo (wipe s vs) G1 (forget vs M1) H1 G' M' H' ∧ H' D = some (.lst us) ∧ RepVs X.K G' H' acc us ∧ us.length ≤ i + 1 ∧
            E.H D = none ∧ ¬ G'.F D ∧ D ∉ G'.al ∧ ¬ OwnAt M'.r (wipe s vs) D ∧ (∀ j x, M'.r[j]? = some (some x) → j ∉ vs) ∧ lcL e all pt vs t el (all.drop (i + 1)) acc M' = some (ps, Mf),
            fun H' h' => ⟨all.length - (i + 1), by omega, rfl, lt, h'⟩, fun y H' hy => ?_⟩
          obtain ⟨G4, V4, R4, r4⟩ := w.yld i G3 M3 _ H3 y H' all[i] R3 x3 c sa (List.getElem?_eq_getElem lt) hy
          cases er : asgPat pt all[i] M3.r with
          | none => simp only [lcStep, er] at hl3; cases hl3
          | some r' =>
            simp only [lcStep, er] at hl3
            obtain ⟨s', R5, k1, k2⟩ := gPat_ok R4 r4 er
            have ls : s'.length = (wipe s vs).length := by
              rw [← R5.len, ← R3.len]
              exact asgPat_len er
            have kk : ∀ j, j ∉ vs → s'[j]? = (wipe s vs)[j]? := fun j hj => k2 j fun z => hj (hp j z)
            have ws : wipe s' vs = wipe s vs := by rw [wipe_agree ls kk, wipe_wipe]
            refine k1 _ ⟨by first | exact ws | rw [ws, wipe_wipe], ?_⟩
            -- D is nobody's
            obtain ⟨hD4, na4, nf4⟩ := V4.keep D _ hD3 na3 nf3 no3
            have no4 : ¬ OwnAt M3.r (wipe s vs) D := no3
            have no5 : ¬ OwnAt r' s' D := fun ⟨j, o, e1, e2⟩ => by
              have z := R5.own j o e1
              obtain ⟨a, u, z1, z2, z3, z4, z5, z6⟩ := z
              have := asgPat_own er e1
              exact no3 ⟨j, o, this, by rw [← kk j (out3 j _ this)]; exact e2⟩
            have R5' : StRep X'.K E G4 ⟨r', M3.h⟩ s' H' := by rw [hK]; exact R5
            -- behind the test, and the element, back to the block's slots
            have back : ∀ {G6 M6 H6}, Evo s' G4 ⟨r', M3.h⟩ H' G6 M6 H6 → StRep X.K E G6 M6 s' H6 →
                StRep X.K E G6 (forget vs M6) (wipe s vs) H6 ∧ Evo (wipe s vs) G1 (forget vs M1) H1 G6 (forget vs M6) H6 ∧ H6 D = some (.lst us) ∧ Ext G3 H3 G6 H6 ∧ ¬ G6.F D ∧ D ∉ G6.al ∧ ¬ OwnAt (forget vs M6).r (wipe s vs) D := fun {G6 M6 H6} V6 R6 => by
              obtain ⟨hD6, na6, nf6⟩ := V6.keep D _ hD4 na4 nf4 no5
              have R7 : StRep X.K E G6 (forget vs M6) (wipe s vs) H6 := (R6.forget vs).agree ls.symm fun j x e => (kk j (forget_get e).2).symm
              have own7 : ∀ a, OwnAt (forget vs M6).r (wipe s vs) a → OwnAt M3.r (wipe s vs) a := fun a ⟨j, o, e1, e2⟩ => by
                obtain ⟨e3, e4⟩ := forget_get e1
                have e5 : s'[j]? = some (some (.ref a)) := by rw [kk j e4]; exact e2
                obtain ⟨j', o', e6, e7⟩ := V6.own a ⟨j, o, e3, e5⟩
                have e8 := asgPat_own er e6
                exact ⟨j', o', e8, by rw [← kk j' (out3 j' _ e8)]; exact e7⟩
              refine ⟨R7, V3.trans ⟨V4.ext.trans V6.ext, fun a u e1 e2 e3 e4 => ?_, own7, fun a e => V4.dom a (V6.dom a e)⟩, hD6, V4.ext.trans V6.ext, nf6, na6, fun z => no3 (own7 _ z)⟩
              obtain ⟨z1, z2, z3⟩ := V4.keep a u e1 e2 e3 e4
              exact V6.keep a u z1 z2 z3 fun ⟨j, o, f1, f2⟩ => by
                have f3 := asgPat_own er f1
                exact e4 ⟨j, o, f3, by rw [← kk j (out3 j _ f3)]; exact f2⟩
            refine ⟨G4, _, R5', ?_⟩
            cases ht : t ⟨r', M3.h⟩ with
            | exn c M6 => simp only [ht] at hl3; cases hl3
            | bad => simp only [ht] at hl3; cases hl3
            | ok b M6 =>
              simp only [ht] at hl3
              intro G6 H6 V6 R6
              have R6 : StRep X.K E G6 M6 s' H6 := by rw [← hK]; exact R6
              cases b with
              | false =>
                obtain ⟨q1, q2, q3, q4, q5, q6, q7⟩ := back V6 R6
                exact iteF ⟨G6, _, acc, us, q1, q2, q3, RepVs.mono q4 _ _ racc, by omega, eD3, q5, q6, q7, fun j x e => (forget_get e).2, hl3⟩
              | true =>
                refine iteT ⟨G6, M6, by rw [hK]; exact R6, ?_⟩
                cases he : el M6 with
                | exn c M7 => simp only [he] at hl3; cases hl3
                | bad => simp only [he] at hl3; cases hl3
                | ok p M7 =>
                  simp only [he] at hl3
                  intro G7 H7 V7 R7 u ru
                  rw [hK] at R7 ru
                  obtain ⟨q1, q2, q3, q4, q5, q6, q7⟩ := back (V6.trans V7) R7
                  have x8 := ext_upd (H := H7) (o := .lst (us ++ [u])) q5
                  have lu : us.length < sizeLine := Nat.lt_of_le_of_lt hus (Nat.lt_of_lt_of_le lt w.sz)
                  exact ⟨us, q3, lu, G7, _, acc ++ [p], us ++ [u], q1.upd _ eD3 q5 q6 q7, q2.upd _ hD q5, upd_same, RepVs.mono x8 _ _ ((RepVs.mono q4 _ _ racc).snoc ru), by simp; omega, eD3, q5, q6, q7, fun j x e => (forget_get e).2, hl3⟩
        · cases hl3
      · have e1 : i = all.length := by omega
        subst e1
        rw [List.drop_length] at hl3
        unfold lcL at hl3
        split at hl3
        · rename_i c
          cases hl3
          have sa : SameAt e s (wipe s vs) := by
            cases e with
            | sl j =>
              have c : slotAt Mf j = some (.own (.lst all)) := c
              exact wipe_out (out3 j _ (slotAt_some c))
            | v p => trivial
            | fr o => trivial
          refine .inl ⟨w.stop _ G3 Mf _ H3 R3 V3.ext c sa (Nat.le_refl _), ?_⟩
          -- back to the def's slots
          have ag : ∀ (j : Nat) (x : LV), Mf.r[j]? = some (some x) → s[j]? = (wipe s vs)[j]? := fun j x e => (wipe_out (out3 j x e)).symm
          have Rf : StRep X.K E G3 Mf s H3 := R3.agree (wipe_length _ _).symm ag
          have Vf : Evo s G1 M1 H1 G3 Mf H3 := by
            refine ⟨V3.ext, fun a u e1 e2 e3 e4 => V3.keep a u e1 e2 e3 fun ⟨j, o, f1, f2⟩ => ?_, fun a ⟨j, o, f1, f2⟩ => ?_, V3.dom⟩
            · obtain ⟨f3, f4⟩ := forget_get f1
              exact e4 ⟨j, o, f3, by rw [← wipe_out (σ := s) f4]; exact f2⟩
            · obtain ⟨j', o', f3, f4⟩ := V3.own a ⟨j, o, f1, by rw [← ag j _ f1]; exact f2⟩
              obtain ⟨f5, f6⟩ := forget_get f3
              exact ⟨j', o', f5, by rw [← wipe_out (σ := s) f6]; exact f4⟩
          have noF : ¬ OwnAt Mf.r s D := fun z => no3 ((OwnAt.agree ag).mp z)
          exact h G3 H3 (V1.trans Vf) Rf _ ⟨D, _, rfl, hD3, ⟨us, rfl, Nat.le_trans hus w.sz, racc⟩, eD3, nf3, na3, noF, V1.dom _ hD⟩
        · cases hl3
end
end HF

end
section
set_option Elab.async false
set_option linter.all false
set_option maxRecDepth 20000
set_option autoImplicit false
/-! HF8: comprehensions as expressions and as stored values; defs and their calls; built-in functions and methods. -/
namespace HF
open PySem PySem.Spec PyProof.Rows L2
section
variable {X : Cx} {E : Ent} {W : WX} {N : List Str} {sc : Scope} {fs : Str → Bool} {k : Nat} {Z : Wd}

/-! ### list comprehensions -/
section
variable {elt tg iter : Expr} {ifs : List Expr} {scope : Scope} {pos : Pos} {f : Sm Src} {pt : Pat} {t : Sm Bool} {el : Sm PV}
theorem lc_rule (A : Amb Z X W N sc fs k) (own : List (Str × Nat)) (hi : FI X E W tg iter f) (hok : blkC N sc scope own = true) (hp : ∀ i ∈ pt.slots, i ∈ own.map (·.2))
    (hg : ∀ X', Amb Z X' W0 N (relS scope sc) (fun x => scope.names.lookup x == some .cell) k → FG X' tg pt)
    (ht : ∀ X', Amb Z X' W0 N (relS scope sc) (fun x => scope.names.lookup x == some .cell) k → FTs X' E W0 ifs t)
    (he : ∀ X', Amb Z X' W0 N (relS scope sc) (fun x => scope.names.lookup x == some .cell) k → FP X' E W0 elt el)
    (hs : ∀ x, foldedSetIterable iter X.env x = pure x := by intro _; rfl) : FE X E W (.ListComp elt [⟨tg, iter, ifs, 0⟩] scope pos) (eLc f pt (own.map (·.2)) t el) := by
  have bk : BlkOk X.N X.env.scope scope own := by rw [A.hN, A.hs]; exact blkOk_by hok
  refine ⟨PE.weak (pe_lc (te := tP X E W0 el) (tt := tB' X E W0 t) (g := gPat X.K pt) A.calm (by rw [A.hN]; exact A.nd) hi.pi bk (fun s H C cl fp => (hg _ (A.blk s H scope C cl fp)).pg) (fun s H C cl fp => (ht _ (A.blk s H scope C cl fp)).pe) (fun s H C cl fp => (he _ (A.blk s H scope C cl fp)).pe) hs) ?_⟩
  intro s H Q h
  exact lc_ok X rfl hp h
theorem lcset (A : Amb Z X W N sc fs k) {i : Nat} {y : Str} {py spos : Pos} (own : List (Str × Nat)) (hy : N[i]? = some y) (hyl : sc.names.lookup y = some .local) (hsw : swapsWith (.ListComp elt [⟨tg, iter, ifs, 0⟩] scope pos) (some (.Name y py)) spos.line X.env = pure true)
    (hi : FI X E W tg iter f) (hok : blkC N sc scope own = true) (hp : ∀ i ∈ pt.slots, i ∈ own.map (·.2))
    (hg : ∀ X', Amb Z X' W0 N (relS scope sc) (fun x => scope.names.lookup x == some .cell) k → FG X' tg pt)
    (ht : ∀ X', Amb Z X' W0 N (relS scope sc) (fun x => scope.names.lookup x == some .cell) k → FTs X' E W0 ifs t)
    (he : ∀ X', Amb Z X' W0 N (relS scope sc) (fun x => scope.names.lookup x == some .cell) k → FP X' E W0 elt el)
    (hs : ∀ x, foldedSetIterable iter X.env x = pure x) : PS X (.Assign [.Name y py] (.ListComp elt [⟨tg, iter, ifs, 0⟩] scope pos) spos) (tAsg (tE X E W (eLc f pt (own.map (·.2)) t el)) (gName i)) := by
  have bk : BlkOk X.N X.env.scope scope own := by rw [A.hN, A.hs]; exact blkOk_by hok
  refine PS.weak (ps_setLc (te := tP X E W0 el) (tt := tB' X E W0 t) (g := gPat X.K pt) A.calm (by rw [A.hN]; exact A.nd) (by rw [A.hN]; exact hy) (by rw [A.hs]; exact hyl) hsw hi.pi bk (fun s H C cl fp => (hg _ (A.blk s H scope C cl fp)).pg) (fun s H C cl fp => (ht _ (A.blk s H scope C cl fp)).pe) (fun s H C cl fp => (he _ (A.blk s H scope C cl fp)).pe) hs) ?_
  intro D s H h
  exact lc_ok X rfl hp h
/-- name = [..], the list the name's own -/
theorem fs_lcOwn (A : Amb Z X W N sc fs k) {i : Nat} {y : Str} {py spos : Pos} (own : List (Str × Nat)) (hy : N[i]? = some y) (hyl : sc.names.lookup y = some .local) (hl : (py.line == pos.line) = true) (hnc : (scope.names.any fun (n, k) => n == y && (k == .local || k == .cell)) = false) (hk : sc.kind = .function)
    (hi : FI X E W tg iter f) (hok : blkC N sc scope own = true) (hp : ∀ i ∈ pt.slots, i ∈ own.map (·.2))
    (hg : ∀ X', Amb Z X' W0 N (relS scope sc) (fun x => scope.names.lookup x == some .cell) k → FG X' tg pt)
    (ht : ∀ X', Amb Z X' W0 N (relS scope sc) (fun x => scope.names.lookup x == some .cell) k → FTs X' E W0 ifs t)
    (he : ∀ X', Amb Z X' W0 N (relS scope sc) (fun x => scope.names.lookup x == some .cell) k → FP X' E W0 elt el)
    (hs : ∀ x, foldedSetIterable iter X.env x = pure x := by intro _; rfl) : FS X E W (.Assign [.Name y py] (.ListComp elt [⟨tg, iter, ifs, 0⟩] scope pos) spos) (sOwn i (eLc f pt (own.map (·.2)) t el)) :=
  ⟨PS.weak (lcset A own hy hyl (sw_true (by rw [A.hs]; exact hk) (by rw [A.hs]; exact hyl) hl hnc) hi hok hp hg ht he hs) fun _ _ _ h => set_tE h⟩
end
theorem tAsg_toP {i : Nat} {f : Sm EV} {D : Ends} {s : L2.St} {H : Hp} (h : tS X E W (sSet i (toP f)) D s H) : tAsg (tE X E W f) (gName i) D s H := by
  obtain ⟨G, M, R, h⟩ := h
  refine ⟨G, M, R, ?_⟩
  simp only [sSet, toP] at h
  generalize f M = q at h
  cases q with
  | ok ev M1 =>
    intro G1 H1 V1 R1 u ru
    have h : SOut X E W D G H ((toP1 ev M1).st fun p M1 => .nx ⟨M1.r.set i (some (.v p)), M1.h⟩) := h
    have h2 := OutP.st (s := s) (M := M) h
    obtain ⟨G2, M2, p, V2, R2, rv, q⟩ := OutP.toP1 V1 R1 ru h2
    exact SOut.nxt q (R2.setV i rv)
  | exn c M1 => exact fun G' H' C R m => h G' s H' C R m
  | bad => exact h
/-- name = [..], a value -/
theorem fs_lcSet (A : Amb Z X W N sc fs k) {elt tg iter : Expr} {ifs : List Expr} {scope : Scope} {pos : Pos} {f : Sm Src} {pt : Pat} {t : Sm Bool} {el : Sm PV} {i : Nat} {y : Str} {py spos : Pos} (own : List (Str × Nat)) (hy : N[i]? = some y) (hyl : sc.names.lookup y = some .local) (hl : (py.line == pos.line) = true)
    (hnc : (scope.names.any fun (n, k) => n == y && (k == .local || k == .cell)) = false) (hk : sc.kind = .function)
    (hi : FI X E W tg iter f) (hok : blkC N sc scope own = true) (hp : ∀ i ∈ pt.slots, i ∈ own.map (·.2))
    (hg : ∀ X', Amb Z X' W0 N (relS scope sc) (fun x => scope.names.lookup x == some .cell) k → FG X' tg pt)
    (ht : ∀ X', Amb Z X' W0 N (relS scope sc) (fun x => scope.names.lookup x == some .cell) k → FTs X' E W0 ifs t)
    (he : ∀ X', Amb Z X' W0 N (relS scope sc) (fun x => scope.names.lookup x == some .cell) k → FP X' E W0 elt el)
    (hs : ∀ x, foldedSetIterable iter X.env x = pure x := by intro _; rfl) : FS X E W (.Assign [.Name y py] (.ListComp elt [⟨tg, iter, ifs, 0⟩] scope pos) spos) (sSet i (toP (eLc f pt (own.map (·.2)) t el))) :=
  ⟨PS.weak (lcset A own hy hyl (sw_true (by rw [A.hs]; exact hk) (by rw [A.hs]; exact hyl) hl hnc) hi hok hp hg ht he hs) fun _ _ _ h => tAsg_toP h⟩

/-! ### defs -/
inductive FR where
  | ok (e : EV) (h : List PO)
  | exn (c : Str) (h : List PO)
  | bad
abbrev Fn := List PV → List PO → FR
def spOf (K : PySem.W.Frag) (mg : Str → Option Value) (φ : Fn) : Sp := fun vs H Q Ex => ∃ G h ps, HpRep K G h H ∧ RepVs K G H ps vs ∧ match φ ps h with
  | .ok e h' => ∀ G' H' u, Post G H G' H' → HpRep K G' h' H' → RepR K H G' H' e u → Q u H'
  | .exn c h' => ∀ G' H' C, Post G H G' H' → HpRep K G' h' H' → mg c = some (.ref C) → Ex (.ref C) none H'
  | .bad => False
/-- a def of the module that keeps φ; ds: the values of the parameters that are left out, at the end -/
structure Known (Z : Wd) (k : Nat) (x : Str) (ds : List PV) (φ : Fn) : Prop where
  ok : ∃ (f : Addr) (fd : FuncData) (ps : List Str) (dvs : List V) (dus : List Value), FnOk Z.P Z.w Z.K Z.mg Z.base (L2.CX Z.P Z.w) k f fd ps (spOf Z.K Z.mg φ) ∧ Z.mg x = some (.ref f) ∧ PySem.W.keepIn Z.K (.ref f) = true ∧ Binds Z.K fd ps dus ∧ Vals dvs dus ∧ ∀ G H, RepVs Z.K G H ds dvs
theorem Known.mono {x : Str} {ds : List PV} {φ : Fn} {j : Nat} (h : Known Z j x ds φ) (l : j ≤ k) : Known Z k x ds φ := by
  obtain ⟨f, fd, ps, dvs, dus, F, r⟩ := h.ok
  exact ⟨f, fd, ps, dvs, dus, F.mono l, r⟩
/-- behind a call -/
theorem StRep.called {K : PySem.W.Frag} {G G' : Gh} {M : Mem} {s : L2.St} {H H' : Hp} {h' : List PO} (R : StRep K E G M s H) (p : Post G H G' H') (hr : HpRep K G' h' H') : StRep K E G' ⟨M.r, h'⟩ s H' ∧ Evo s G M H G' ⟨M.r, h'⟩ H' := by
  refine ⟨⟨R.post.trans p, hr, R.len, fun i q e => ?_, fun i o e => ?_, R.sep⟩, p.ext, fun a u e n f _ => ⟨p.keep a u e n f, p.noal e n, p.nof e f⟩, fun _ h => h, p.dom⟩
  · obtain ⟨u, h1, h2⟩ := R.slot i q e
    exact ⟨u, h1, RepV.mono p.ext _ _ h2⟩
  · obtain ⟨a, u, h1, h2, h3, h4, h5, h6⟩ := R.own i o e
    exact ⟨a, u, h1, p.keep a u h2 h6 h5, h3.mono p.ext, h4, p.nof h2 h5, p.noal h2 h6⟩
@[simp] def eCall (φ : Fn) (ds : List PV) (g : Sm (List PV)) : Sm EV := fun M => (g M).bnd fun ps M1 => match φ (ps ++ ds) M1.h with
  | .ok (.sl _) _ => .bad
  | .ok e h' => .ok e ⟨M1.r, h'⟩
  | .exn c h' => .exn c ⟨M1.r, h'⟩
  | .bad => .bad
theorem run_fnD {f : Addr} {fd : FuncData} {ps : List Str} {sp : Sp} {dvs : List V} {ds : List Value} {pins : List (Addr × Obj)} {σ : L2.St} {H : Hp} {s : Shared} {Q : VK} {us : List Value} {vs : List V}
    (F : FnOk X.prog X.w X.K X.mg X.base (L2.CX X.prog X.w) k f fd ps sp) (hr : Room k X.A) (hb : Binds X.K fd ps ds) (hd : Vals dvs ds) (tk : Takes X W)
    (I : Inv X pins σ H s) (r : Vals vs us) (h : sp (vs ++ dvs) H Q (WE W σ)) : wpAny (model X.prog X.w) X.A (call (.ref f) us) (EP X pins σ Q) X.xe s := by
  have r2 := r.append hd
  have hl : (us ++ ds).length = ps.length := r2.length.symm.trans (F.len _ _ _ _ h)
  have go := F.run X.A X.stack s H ⟨us, []⟩ (us ++ ds) (vs ++ dvs) Q (WE W σ) hr I.env0 (hb s us I.kIn hl) r2 h
  refine wpAny_call (codeAny_mono go fun z s' hq => ?_)
  cases z with
  | error e => exact passAt tk σ pins H s e s' I hq
  | ok fl =>
    cases fl with
    | ret u => exact I.after hq
    | next => exact hq.elim
    | brk => exact hq.elim
    | cont => exact hq.elim
section
variable {x : Str} {e : Expr} {es : List Expr} {p pos : Pos} {g : Sm (List PV)} {φ : Fn} {ds : List PV}
theorem fe_call (A : Amb Z X W N sc fs k) (hK : Known Z k x ds φ) (ha : FL X E W (e :: es) g) (hg : sc.names.lookup x = some .globalImplicit := by rfl) (hdb : (x == ("__debug__" : Str)) = false := by decide)
    (he : starEach (e :: es) X.env = (false, eval e X.env) :: starEach es X.env := by rfl) (hpl : (backTo pos (starEach es X.env)).any (fun z => z.1) = false := by rfl) : FE X E W (.Call (.Name x p) (e :: es) [] pos) (eCall φ ds g) := by
  obtain ⟨f, fd, ps, dvs, dus, F, hm, hk, hb, hd, hr⟩ := hK.ok
  obtain ⟨s1, s2, s3, s4, s5⟩ := A.same
  rw [← s1, ← s2, ← s3, ← s4, ← s5] at F
  rw [← s3] at hk hb hr
  rw [← s4] at hm
  refine ⟨⟨fun pins s σ H Q I h => ?_⟩⟩
  obtain ⟨G, M, R, h⟩ := h
  refine wpAny_Call_Name_kw (ld_glob I (A.gl hg) hm ?_ hdb)
  refine PySem.W.callWith_K (h₀ := X.base) I.ok.mod.kin hk (thn (ha.fa.pe.run pos pins s σ H (fun vs H1 => spOf X.K X.mg φ (vs ++ dvs) H1 Q (WE W σ)) I ?_) fun us s1 ⟨vs, H1, I1, r, q⟩ => ⟨I1.kIn, run_fnD F A.room hb hd A.tk I1 r q⟩) he hpl
  refine tL_one R h fun G1 M1 H1 ps us V1 R1 rr q => ?_
  refine ⟨G1, M1.h, ps ++ ds, R1.hp, rr.append (hr G1 H1), ?_⟩
  cases hφ : φ (ps ++ ds) M1.h with
  | bad => rw [hφ] at q; exact q
  | exn c h' =>
    rw [hφ] at q
    intro G2 H2 C p2 r2 m
    obtain ⟨R3, _⟩ := R1.called p2 r2
    exact q G2 H2 C R3 m
  | ok ev h' =>
    rw [hφ] at q
    intro G2 H2 u p2 r2 ru
    obtain ⟨R3, V3⟩ := R1.called p2 r2
    cases ev with
    | v pv => exact q G2 H2 V3 R3 u ru
    | sl i => exact q.elim
    | fr o =>
      obtain ⟨a, w, rfl, h1, ro, hn, nf, nl⟩ := ru
      have no : ¬ OwnAt M1.r σ a := fun ⟨i, o2, e1, e2⟩ => by
        obtain ⟨b, w2, z1, z2, _⟩ := R1.own i o2 e1
        rw [e2] at z1; cases z1
        rw [hn] at z2; cases z2
      exact q G2 H2 V3 R3 _ ⟨a, w, rfl, h1, ro, R1.post.dom a hn, nf, nl, no, V1.dom a hn⟩
end
/-- a def's run -/
def runDef (n m : Nat) (fb : Ss) : Fn := fun args h => if args.length = n then (match fb ⟨args.map (fun p => some (LV.v p)) ++ List.replicate (m - n) none, h⟩ with
  | .nx M => .ok (.v .non) M.h
  | .ret (.sl _) _ => .bad
  | .ret e M => .ok e M.h
  | .exn c M => .exn c M.h
  | _ => .bad) else .bad
theorem start_rep {K : PySem.W.Frag} {G : Gh} {H : Hp} {h : List PO} {ps : List PV} {vs : List V} {n m : Nat} (hp : HpRep K G h H) (r : RepVs K G H ps vs) {N : List Str} (hn : ps.length = n) (hm : N.length = m) : StRep K ⟨G, H⟩ G ⟨ps.map (fun p => some (LV.v p)) ++ List.replicate (m - n) none, h⟩ (L2.start N vs) H := by
  have lv := r.length
  have get : ∀ (i : Nat) (x : LV), (ps.map (fun p => some (LV.v p)) ++ List.replicate (m - n) none)[i]? = some (some x) → ∃ p, ps[i]? = some p ∧ x = .v p := fun i x e => by
    by_cases lt : i < ps.length
    · rw [List.getElem?_append_left (by simpa using lt), List.getElem?_map, List.getElem?_eq_getElem lt] at e
      cases e
      exact ⟨_, List.getElem?_eq_getElem lt, rfl⟩
    · rw [List.getElem?_append_right (by simpa using lt), List.getElem?_replicate] at e
      split at e <;> cases e
  refine ⟨Post.refl _ _, hp, ?_, fun i p e => ?_, fun i o e => ?_, fun i j o o' a e => ?_⟩
  · show (ps.map _ ++ List.replicate _ _).length = (L2.start N vs).length
    unfold L2.start
    simp [hm, lv, ← hn]
  · obtain ⟨q, e1, e2⟩ := get i _ e
    cases e2
    obtain ⟨v, e3, e4⟩ := r.get e1
    refine ⟨v, ?_, e4⟩
    unfold L2.start
    rw [List.getElem?_append_left (by simpa using (List.getElem?_eq_some_iff.mp e3).1), List.getElem?_map, e3]
    rfl
  · obtain ⟨q, e1, e2⟩ := get i _ e; cases e2
  · obtain ⟨q, e1, e2⟩ := get i _ e; cases e2
theorem def_ok {x qual : Str} {st : Stmt} {f : Addr} {fd : FuncData} {ps : List Str} {fb : Ss} (F : Fun Z.K x qual st f fd) (S : FnScope N ps (defScope st))
    (hb : ∀ X E W, Amb Z X W N (defScope st) (fun _ => true) k → FSs X E W (defBody st) fb) : FnOk Z.P Z.w Z.K Z.mg Z.base (L2.CX Z.P Z.w) (k + 1) f fd ps (spOf Z.K Z.mg (runDef ps.length N.length fb)) := by
  refine F.okX S (fun vs H Q Ex h => ?_) fun cdv A outer s H vs Q Ex hr h => ?_
  · obtain ⟨G, h, ps', hp, r, q⟩ := h
    unfold runDef at q
    split at q
    · rename_i hl
      split at hl
      · rename_i z; rw [← r.length]; exact z
      · cases hl
    · rename_i hl
      split at hl
      · rename_i z; rw [← r.length]; exact z
      · cases hl
    · exact q.elim
  · obtain ⟨G, h, ps', hp, r, q⟩ := h
    have hx : (cxOf (L2.CX Z.P Z.w) Z.P Z.w Z.K Z.mg Z.base N qual (defScope st) f cdv A outer s H Ex).xe = _ := rfl
    have amb : Amb Z (cxOf (L2.CX Z.P Z.w) Z.P Z.w Z.K Z.mg Z.base N qual (defScope st) f cdv A outer s H Ex) (fun c d _ H' => Ex c d H') N (defScope st) (fun _ => true) k :=
      ⟨rfl, rfl, ⟨rfl, rfl, rfl, rfl, rfl⟩, rfl, S.nd, rfl, hr, takes_of rfl rfl rfl rfl, passes_of rfl⟩
    refine ⟨_, (hb _ ⟨G, H⟩ _ amb).ps, ?_⟩
    by_cases hl : ps'.length = ps.length
    · refine ⟨G, ⟨ps'.map (fun p => some (LV.v p)) ++ List.replicate (N.length - ps.length) none, h⟩, start_rep hp r hl rfl, ?_⟩
      unfold runDef at q
      rw [if_pos hl] at q
      generalize fb ⟨ps'.map (fun p => some (LV.v p)) ++ List.replicate (N.length - ps.length) none, h⟩ = z at q
      cases z with
      | nx M => exact fun G' s' H' x R' => q G' H' _ R'.post R'.hp (show RepV Z.K G' H' .non .non by simp only [RepV])
      | ret e M =>
        intro G' s' H' u R' ru
        cases e with
        | v p => exact q G' H' u R'.post R'.hp ru
        | fr o =>
          obtain ⟨a, w, e, h1, ro, hn, nf, nl, no, _⟩ := ru
          exact q G' H' u R'.post R'.hp ⟨a, w, e, h1, ro, hn, nf, nl⟩
        | sl i => exact q.elim
      | exn c M => exact fun G' s' H' C R' m => q G' H' C R'.post R'.hp m
      | brk M => exact q.elim
      | cnt M => exact q.elim
      | bad => exact q.elim
    · unfold runDef at q
      rw [if_neg hl] at q
      exact q.elim
end
end HF

end
section
set_option Elab.async false
set_option linter.all false
set_option maxRecDepth 20000
set_option autoImplicit false
/-! HF9: built-in functions; methods of lists and texts. -/
namespace HF
open PySem PySem.Spec PyProof.Rows L2
section
variable {X : Cx} {E : Ent} {W : WX} {N : List Str} {sc : Scope} {fs : Str → Bool} {k : Nat} {Z : Wd}
theorem Amb.no (A : Amb Z X W N sc fs k) {x : Str} (h : Z.mg x = none) : X.mg x = none := by rw [A.same.2.2.2.1]; exact h

/-! ### one argument -/
abbrev Op1 := EV → Mem → Option EV
@[simp] def e1 (op : Op1) (f : Sm EV) : Sm EV := fun M => (f M).bnd fun x M1 => optR (op x M1) M1
def Op1Ok (X : Cx) (r : V → Hp → VK → Prop) (op : Op1) : Prop := ∀ (E : Ent) (s : L2.St) (G : Gh) (M : Mem) (H H0 : Hp) (x : EV) (u : V) (ev : EV) (Q : VK), StRep X.K E G M s H → (∀ a, H a = none → H0 a = none) →
  RepE X.K E H0 G M s H x u → op x M = some ev → (∀ G' H' w, Evo s G M H G' M H' → StRep X.K E G' M s H' → RepE X.K E H0 G' M s H' ev w → Q w H') → r u H Q
theorem Op1Ok.or {r r' : V → Hp → VK → Prop} {o o' : Op1} (h : Op1Ok X r o) (h' : Op1Ok X r' o') : Op1Ok X (fun x H Q => r x H Q ∨ r' x H Q) (fun x M => (o x M).or (o' x M)) := by
  intro E s G M H H0 x u ev Q R d rx e q
  simp only at e
  cases e1 : o x M with
  | some w =>
    rw [e1] at e
    cases e
    exact .inl (h E s G M H H0 x u _ Q R d rx e1 q)
  | none =>
    rw [e1] at e
    exact .inr (h' E s G M H H0 x u ev Q R d rx e q)
theorem tE_op1 {f : Sm EV} {r : V → Hp → VK → Prop} {op : Op1} (ok : Op1Ok X r op) {s : L2.St} {H : Hp} {Q : VK} (h : tE X E W (e1 op f) s H Q) : tE X E W f s H fun x H1 => r x H1 Q := by
  obtain ⟨G, M, R, h⟩ := h
  refine tE_one R h fun G1 M1 H1 x u V1 R1 rx h1 => ?_
  cases eo : op x M1 with
  | none => rw [eo] at h1; exact h1.elim
  | some ev =>
    rw [eo] at h1
    exact ok E s G1 M1 H1 H x u ev Q R1 V1.dom rx eo fun G' H' w V3 R3 rw' => h1 G' H' V3 R3 w rw'
section
variable {e e' : Expr} {f g : Sm EV} {x : Str} {id T : String} {p pos : Pos}
theorem fe_b1 (A : Amb Z X W N sc fs k) {r : List V → Hp → VK → Prop} {op : Op1} (hc : CallR X (.builtin id) r) (ok : Op1Ok X (fun u => r [u]) op) (hm : Z.mg x = none) (hv : bootBuiltins x = some (.builtin id)) (he : FE X E W e f)
    (hg : sc.names.lookup x = some .globalImplicit) (hn : x ≠ "__name__") (hdb : (x == ("__debug__" : Str)) = false) (h1 : starEach [e] X.env = (false, eval e X.env) :: starEach [] X.env := by rfl) : FE X E W (.Call (.Name x p) [e] [] pos) (e1 op f) :=
  ⟨PE.weak (pe_callB hc (A.gl hg) (A.no hm) hv (pa_cons he.pe pa_nil h1) hn hdb h1) fun _ _ _ h => tE_op1 ok h⟩
theorem fe_t1 (A : Amb Z X W N sc fs k) {r : List V → Hp → VK → Prop} {op : Op1} (hc : CallR X (.type T) r) (ok : Op1Ok X (fun u => r [u]) op) (hm : Z.mg x = none) (hv : bootBuiltins x = some (.type T)) (he : FE X E W e f)
    (hg : sc.names.lookup x = some .globalImplicit) (hn : x ≠ "__name__") (hdb : (x == ("__debug__" : Str)) = false) (h1 : starEach [e] X.env = (false, eval e X.env) :: starEach [] X.env := by rfl) : FE X E W (.Call (.Name x p) [e] [] pos) (e1 op f) :=
  ⟨PE.weak (pe_callTy hc (A.gl hg) (A.no hm) hv (pa_cons he.pe pa_nil h1) hn hdb h1) fun _ _ _ h => tE_op1 ok h⟩
theorem tE_op2 {r : R2} {op : Op2} (ok : Op2Ok X r op) {s : L2.St} {H : Hp} {Q : VK} (h : tE X E W (e2 op f g) s H Q) : tE X E W f s H fun x H1 => tE X E W g s H1 fun y H2 => r x y H2 Q := tE_two ok h
theorem fe_b2 (A : Amb Z X W N sc fs k) {r : List V → Hp → VK → Prop} {op : Op2} (hc : CallR X (.builtin id) r) (ok : Op2Ok X (fun u v => r [u, v]) op) (hm : Z.mg x = none) (hv : bootBuiltins x = some (.builtin id)) (he : FE X E W e f) (he' : FE X E W e' g)
    (hg : sc.names.lookup x = some .globalImplicit) (hn : x ≠ "__name__") (hdb : (x == ("__debug__" : Str)) = false) (h1 : starEach [e, e'] X.env = (false, eval e X.env) :: starEach [e'] X.env := by rfl) (h2 : starEach [e'] X.env = (false, eval e' X.env) :: starEach [] X.env := by rfl)
    (hpl : (backTo pos (starEach [e'] X.env)).any (fun z => z.1) = false := by rfl) : FE X E W (.Call (.Name x p) [e, e'] [] pos) (e2 op f g) :=
  ⟨PE.weak (pe_callB hc (A.gl hg) (A.no hm) hv (pa_cons he.pe (pa_cons he'.pe pa_nil h2) h1) hn hdb h1 hpl) fun _ _ _ h => tE_op2 ok h⟩
end
/-! len -/
@[simp] def opLen : Op1 := fun x M => match x with
  | .v (.tup xs) => some (.v (.int xs.length))
  | .v (.str z) => if z.length ≤ sizeLine then some (.v (.int z.length)) else none
  | x => match asLst M x with
    | some xs => some (.v (.int xs.length))
    | none => match asDct M x with
      | some (ks, _) => some (.v (.int ks.length))
      | none => none
def rLenR (K : PySem.W.Frag) : List V → Hp → VK → Prop := fun xs H Q => (∃ p ys, xs = [.ref p] ∧ (SqL K H p ys ∨ SqT K H p ys) ∧ Q (.int ys.length) H) ∨ (∃ z, xs = [.str z] ∧ z.length ≤ sizeLine ∧ Q (.int z.length) H) ∨ ∃ a kvs, xs = [V.ref a] ∧ Rd H a (.dK kvs) ∧ Q (.int kvs.length) H
theorem call_lenR : CallR X (.builtin "len") (rLenR X.K) := by
  refine CallR.or call_len_seq (CallR.or call_len_str ?_)
  intro pins s σ H xs us Q I r h
  obtain ⟨a, kvs, rfl, ha, q⟩ := h
  obtain ⟨u, rfl, ru⟩ := vals1 r
  cases ru
  exact d_len I ha fun t s' I' => ⟨.int kvs.length, H, I', ⟨t, rfl⟩, q⟩
theorem repV_int {E : Ent} {H0 : Hp} {G : Gh} {M : Mem} {s : L2.St} {H : Hp} {i : Int} : RepE X.K E H0 G M s H (.v (.int i)) (.int i) := show RepV X.K G H (.int i) _ by simp only [RepV]
theorem opLen_ok : Op1Ok X (fun u => rLenR X.K [u]) opLen := by
  intro E s G M H H0 x u ev Q R d rx e q
  have fin : ∀ {n m : Nat}, ev = .v (.int n) → n = m → Q (.int m) H := fun {n m} e h => q G H _ (Evo.refl _ _ _ _) R (by subst e; subst h; exact repV_int)
  simp only [opLen] at e
  split at e
  · cases e
    obtain ⟨a, us, rfl, ha, ra, za⟩ := repE_tup rx
    exact .inl ⟨a, us, rfl, .inr ha, fin rfl ra.length⟩
  · split at e
    · rename_i z hz
      cases e
      exact .inr (.inl ⟨_, by rw [repE_str rx], hz, fin rfl rfl⟩)
    · cases e
  · split at e
    · rename_i xs e1
      cases e
      obtain ⟨a, us, rfl, ha, ra, za⟩ := lst_of R rx e1
      exact .inl ⟨a, us, rfl, .inl ha, fin rfl ra.length⟩
    · split at e
      · rename_i ks xs e1
        cases e
        obtain ⟨a, kvs, rfl, hr, hk, rr, z⟩ := dct_of R rx e1
        exact .inr (.inr ⟨a, kvs, rfl, hr, fin rfl (by rw [← hk]; simp)⟩)
      · cases e
/-! list, tuple -/
@[simp] def opLst : Op1 := fun x M => match x with
  | .v (.tup xs) => some (.fr (.lst xs))
  | x => (asLst M x).map fun xs => .fr (.lst xs)
theorem opLst_ok : Op1Ok X (fun u H Q => ∃ p ys, [u] = [V.ref p] ∧ (SqL X.K H p ys ∨ SqT X.K H p ys) ∧ ∀ l, H l = none → Q (.ref l) (upd H l (.lst ys))) opLst := by
  intro E s G M H H0 x u ev Q R d rx e q
  have go : ∀ {xs a us}, ev = .fr (.lst xs) → RepVs X.K G H xs us → us.length ≤ sizeLine → u = .ref a → (SqL X.K H a us ∨ SqT X.K H a us) → ∃ p ys, [u] = [V.ref p] ∧ (SqL X.K H p ys ∨ SqT X.K H p ys) ∧ ∀ l, H l = none → Q (.ref l) (upd H l (.lst ys)) := fun {xs a us} e rr z eu h =>
    ⟨a, us, by rw [eu], h, fun l hl => by
      obtain ⟨V1, R1, r1⟩ := rep_newlst (H0 := H0) R d rr z hl
      exact q G _ _ V1 R1 (by rw [e]; exact r1)⟩
  simp only [opLst] at e
  split at e
  · cases e
    obtain ⟨a, us, eu, ha, ra, za⟩ := repE_tup rx
    exact go rfl ra za eu (.inr ha)
  · cases e1 : asLst M x with
    | none => rw [e1] at e; cases e
    | some xs =>
      rw [e1] at e; cases e
      obtain ⟨a, us, eu, ha, ra, za⟩ := lst_of R rx e1
      exact go rfl ra za eu (.inl ha)
@[simp] def opTupOf : Op1 := fun x M => match x with
  | .v (.tup xs) => some (.v (.tup xs))
  | x => (asLst M x).map fun xs => .v (.tup xs)
theorem opTupOf_ok : Op1Ok X (fun u H Q => ∃ p ys, [u] = [V.ref p] ∧ ((SqL X.K H p ys ∧ ∀ l, H l = none → Q (.ref l) (upd H l (.tup ys))) ∨ (SqT X.K H p ys ∧ Q (.ref p) H))) opTupOf := by
  intro E s G M H H0 x u ev Q R d rx e q
  simp only [opTupOf] at e
  split at e
  · cases e
    obtain ⟨a, us, rfl, ha, ra, za⟩ := repE_tup rx
    exact ⟨a, us, rfl, .inr ⟨ha, q G H _ (Evo.refl _ _ _ _) R rx⟩⟩
  · cases e1 : asLst M x with
    | none => rw [e1] at e; cases e
    | some xs =>
      rw [e1] at e; cases e
      obtain ⟨a, us, rfl, ha, ra, za⟩ := lst_of R rx e1
      refine ⟨a, us, rfl, .inl ⟨ha, fun l hl => ?_⟩⟩
      obtain ⟨V1, R1, r1⟩ := rep_newtup R ra za hl
      exact q _ _ _ V1 R1 r1
/-! max, min of two; of a list; sum; all, any -/
def opMax2 : Op2 := opI2' fun i j => if j > i then j else i
@[simp] theorem opMax2_at (x y : EV) (M : Mem) : opMax2 x y M = (opI2' fun i j => if j > i then j else i) x y M := rfl
def opMin2 : Op2 := opI2' fun i j => if j < i then j else i
@[simp] theorem opMin2_at (x y : EV) (M : Mem) : opMin2 x y M = (opI2' fun i j => if j < i then j else i) x y M := rfl
theorem opI2b_ok {f : Int → Int → Int} : Op2Ok X (fun u v H Q => ∃ i j, [u, v] = [V.int i, V.int j] ∧ Q (.int (f i j)) H) (opI2' f) := by
  intro E s G M H H0 x y u v ev Q R d rx ry e q
  obtain ⟨i, j, h1, h2, h3⟩ := opI2'_ok E s G M H H0 x y u v ev Q R d rx ry e q
  exact ⟨i, j, by rw [h1, h2], h3⟩
@[simp] def asInts : List PV → Option (List Int)
  | [] => some []
  | .int i :: r => (asInts r).map (i :: ·)
  | _ => none
theorem asInts_map (ns : List Int) : asInts (ns.map PV.int) = some ns := by
  induction ns with
  | nil => rfl
  | cons n ns ih => simp [ih]
theorem asInts_rep {G : Gh} {H : Hp} : ∀ {xs : List PV} {us : List V} {ns : List Int}, asInts xs = some ns → RepVs X.K G H xs us → us = ns.map V.int
  | [], us, ns, e, r => by cases e; rw [RepVs.nil_iff.mp r]; rfl
  | x :: xs, us, ns, e, r => by
    obtain ⟨u, ws, rfl, r1, r2⟩ := RepVs.cons_iff.mp r
    cases x <;> simp only [asInts] at e <;> try cases e
    rename_i i
    cases e1 : asInts xs with
    | none => rw [e1] at e; cases e
    | some ms =>
      rw [e1] at e; cases e
      rw [asInts_rep e1 r2, ints_rep.mp r1]
      rfl
@[simp] def asBls : List PV → Option (List Bool)
  | [] => some []
  | .bl i :: r => (asBls r).map (i :: ·)
  | _ => none
theorem asBls_map (ns : List Bool) : asBls (ns.map PV.bl) = some ns := by
  induction ns with
  | nil => rfl
  | cons n ns ih => simp [ih]
theorem asBls_rep {G : Gh} {H : Hp} : ∀ {xs : List PV} {us : List V} {ns : List Bool}, asBls xs = some ns → RepVs X.K G H xs us → us = ns.map V.bl
  | [], us, ns, e, r => by cases e; rw [RepVs.nil_iff.mp r]; rfl
  | x :: xs, us, ns, e, r => by
    obtain ⟨u, ws, rfl, r1, r2⟩ := RepVs.cons_iff.mp r
    cases x <;> simp only [asBls] at e <;> try cases e
    rename_i i
    cases e1 : asBls xs with
    | none => rw [e1] at e; cases e
    | some ms =>
      rw [e1] at e; cases e
      simp only [RepV] at r1
      rw [asBls_rep e1 r2, r1]
      rfl
@[simp] def asStrs : List PV → Option (List Str)
  | [] => some []
  | .str i :: r => (asStrs r).map (i :: ·)
  | _ => none
theorem asStrs_map (ns : List Str) : asStrs (ns.map PV.str) = some ns := by
  induction ns with
  | nil => rfl
  | cons n ns ih => simp [ih]
theorem asStrs_rep {G : Gh} {H : Hp} : ∀ {xs : List PV} {us : List V} {ns : List Str}, asStrs xs = some ns → RepVs X.K G H xs us → us = ns.map V.str
  | [], us, ns, e, r => by cases e; rw [RepVs.nil_iff.mp r]; rfl
  | x :: xs, us, ns, e, r => by
    obtain ⟨u, ws, rfl, r1, r2⟩ := RepVs.cons_iff.mp r
    cases x <;> simp only [asStrs] at e <;> try cases e
    rename_i i
    cases e1 : asStrs xs with
    | none => rw [e1] at e; cases e
    | some ms =>
      rw [e1] at e; cases e
      simp only [RepV] at r1
      rw [asStrs_rep e1 r2, r1]
      rfl
/-- the greatest -/
def maxOf : List Int → Int
  | [] => 0
  | [n] => n
  | n :: m :: r => max n (maxOf (m :: r))
theorem maxOf_mem : ∀ {ns : List Int}, ns ≠ [] → maxOf ns ∈ ns ∧ ∀ y ∈ ns, y ≤ maxOf ns
  | [], h => absurd rfl h
  | [n], _ => by simp [maxOf]
  | n :: m :: r, _ => by
    obtain ⟨h1, h2⟩ := maxOf_mem (ns := m :: r) (by simp)
    unfold maxOf
    refine ⟨?_, fun y hy => ?_⟩
    · by_cases h : n ≤ maxOf (m :: r)
      · rw [Int.max_eq_right h]; exact List.mem_cons_of_mem _ h1
      · rw [Int.max_eq_left (by omega)]; exact List.mem_cons_self
    · rcases List.mem_cons.mp hy with z | z
      · subst z; omega
      · have := h2 y z; omega
@[simp] def opMax1 : Op1 := fun x M => match (asLst M x).bind asInts with
  | some (n :: ns) => some (.v (.int (maxOf (n :: ns))))
  | _ => none
theorem opMax1_ok : Op1Ok X (fun u => rMax X.K [u]) opMax1 := by
  intro E s G M H H0 x u ev Q R d rx e q
  simp only [opMax1] at e
  cases e1 : asLst M x with
  | none => rw [e1] at e; cases e
  | some xs =>
    rw [e1] at e
    simp only [Option.bind_some] at e
    split at e
    · rename_i n ns e2
      cases e
      obtain ⟨a, us, rfl, ha, ra, za⟩ := lst_of R rx e1
      have eu := asInts_rep e2 ra
      subst eu
      refine ⟨a, n :: ns, rfl, ha, by simp, fun m hm hb => ?_⟩
      obtain ⟨h1, h2⟩ := maxOf_mem (ns := n :: ns) (by simp)
      have em : m = maxOf (n :: ns) := Int.le_antisymm (h2 m hm) (hb _ h1)
      exact q G H _ (Evo.refl _ _ _ _) R (by rw [em]; exact repV_int)
    · cases e
@[simp] def opSum : Op1 := fun x M => ((asLst M x).bind asInts).map fun ns => .v (.int ns.sum)
theorem opSum_ok : Op1Ok X (fun u => rSum X.K [u]) opSum := by
  intro E s G M H H0 x u ev Q R d rx e q
  simp only [opSum] at e
  cases e1 : asLst M x with
  | none => rw [e1] at e; cases e
  | some xs =>
    rw [e1] at e
    simp only [Option.bind_some] at e
    cases e2 : asInts xs with
    | none => rw [e2] at e; cases e
    | some ns =>
      rw [e2] at e; cases e
      obtain ⟨a, us, rfl, ha, ra, za⟩ := lst_of R rx e1
      have eu := asInts_rep e2 ra
      subst eu
      exact ⟨a, ns, rfl, ha, q G H _ (Evo.refl _ _ _ _) R repV_int⟩
@[simp] def opAll : Op1 := fun x M => ((asLst M x).bind asBls).map fun ns => .v (.bl (ns.all id))
@[simp] def opAny : Op1 := fun x M => ((asLst M x).bind asBls).map fun ns => .v (.bl (ns.any id))
theorem opAll_ok : Op1Ok X (fun u => rAll X.K [u]) opAll := by
  intro E s G M H H0 x u ev Q R d rx e q
  simp only [opAll] at e
  cases e1 : asLst M x with
  | none => rw [e1] at e; cases e
  | some xs =>
    rw [e1] at e
    simp only [Option.bind_some] at e
    cases e2 : asBls xs with
    | none => rw [e2] at e; cases e
    | some ns =>
      rw [e2] at e; cases e
      obtain ⟨a, us, rfl, ha, ra, za⟩ := lst_of R rx e1
      have eu := asBls_rep e2 ra
      subst eu
      exact ⟨a, ns, rfl, ha, q G H _ (Evo.refl _ _ _ _) R repE_blI⟩
theorem opAny_ok : Op1Ok X (fun u => rAny X.K [u]) opAny := by
  intro E s G M H H0 x u ev Q R d rx e q
  simp only [opAny] at e
  cases e1 : asLst M x with
  | none => rw [e1] at e; cases e
  | some xs =>
    rw [e1] at e
    simp only [Option.bind_some] at e
    cases e2 : asBls xs with
    | none => rw [e2] at e; cases e
    | some ns =>
      rw [e2] at e; cases e
      obtain ⟨a, us, rfl, ha, ra, za⟩ := lst_of R rx e1
      have eu := asBls_rep e2 ra
      subst eu
      exact ⟨a, ns, rfl, ha, q G H _ (Evo.refl _ _ _ _) R repE_blI⟩
section
variable {e e' : Expr} {f g : Sm EV} {p pos : Pos}
theorem fe_len (A : Amb Z X W N sc fs k) (hm : Z.mg ("len" : Str) = none) (he : FE X E W e f) (hg : sc.names.lookup ("len" : Str) = some .globalImplicit := by rfl) (h1 : starEach [e] X.env = (false, eval e X.env) :: starEach [] X.env := by rfl) : FE X E W (.Call (.Name "len" p) [e] [] pos) (e1 opLen f) :=
  fe_b1 A call_lenR opLen_ok hm PySem.boot_len he hg (by decide) (by decide) h1
theorem fe_list (A : Amb Z X W N sc fs k) (hm : Z.mg ("list" : Str) = none) (he : FE X E W e f) (hg : sc.names.lookup ("list" : Str) = some .globalImplicit := by rfl) (h1 : starEach [e] X.env = (false, eval e X.env) :: starEach [] X.env := by rfl) : FE X E W (.Call (.Name "list" p) [e] [] pos) (e1 opLst f) :=
  fe_t1 A call_list_of opLst_ok hm PyProof.Rows.boot_list he hg (by decide) (by decide) h1
theorem fe_tuple (A : Amb Z X W N sc fs k) (hm : Z.mg ("tuple" : Str) = none) (he : FE X E W e f) (hg : sc.names.lookup ("tuple" : Str) = some .globalImplicit := by rfl) (h1 : starEach [e] X.env = (false, eval e X.env) :: starEach [] X.env := by rfl) : FE X E W (.Call (.Name "tuple" p) [e] [] pos) (e1 opTupOf f) :=
  fe_t1 A call_tuple_of opTupOf_ok hm PyProof.Rows.boot_tuple he hg (by decide) (by decide) h1
theorem fe_max1 (A : Amb Z X W N sc fs k) (hm : Z.mg ("max" : Str) = none) (he : FE X E W e f) (hg : sc.names.lookup ("max" : Str) = some .globalImplicit := by rfl) (h1 : starEach [e] X.env = (false, eval e X.env) :: starEach [] X.env := by rfl) : FE X E W (.Call (.Name "max" p) [e] [] pos) (e1 opMax1 f) :=
  fe_b1 A (cr_max A.calm) opMax1_ok hm PyProof.Rows.boot_max he hg (by decide) (by decide) h1
theorem fe_sum (A : Amb Z X W N sc fs k) (hm : Z.mg ("sum" : Str) = none) (he : FE X E W e f) (hg : sc.names.lookup ("sum" : Str) = some .globalImplicit := by rfl) (h1 : starEach [e] X.env = (false, eval e X.env) :: starEach [] X.env := by rfl) : FE X E W (.Call (.Name "sum" p) [e] [] pos) (e1 opSum f) :=
  fe_b1 A (cr_sum A.calm) opSum_ok hm PyProof.Rows.boot_sum he hg (by decide) (by decide) h1
theorem fe_all (A : Amb Z X W N sc fs k) (hm : Z.mg ("all" : Str) = none) (he : FE X E W e f) (hg : sc.names.lookup ("all" : Str) = some .globalImplicit := by rfl) (h1 : starEach [e] X.env = (false, eval e X.env) :: starEach [] X.env := by rfl) : FE X E W (.Call (.Name "all" p) [e] [] pos) (e1 opAll f) :=
  fe_b1 A (cr_all A.calm) opAll_ok hm (by decide +kernel) he hg (by decide) (by decide) h1
theorem fe_any (A : Amb Z X W N sc fs k) (hm : Z.mg ("any" : Str) = none) (he : FE X E W e f) (hg : sc.names.lookup ("any" : Str) = some .globalImplicit := by rfl) (h1 : starEach [e] X.env = (false, eval e X.env) :: starEach [] X.env := by rfl) : FE X E W (.Call (.Name "any" p) [e] [] pos) (e1 opAny f) :=
  fe_b1 A (cr_any A.calm) opAny_ok hm (by decide +kernel) he hg (by decide) (by decide) h1
theorem fe_max2 (A : Amb Z X W N sc fs k) (hm : Z.mg ("max" : Str) = none) (he : FE X E W e f) (he' : FE X E W e' g) (hg : sc.names.lookup ("max" : Str) = some .globalImplicit := by rfl) (h1 : starEach [e, e'] X.env = (false, eval e X.env) :: starEach [e'] X.env := by rfl) (h2 : starEach [e'] X.env = (false, eval e' X.env) :: starEach [] X.env := by rfl)
    (hpl : (backTo pos (starEach [e'] X.env)).any (fun z => z.1) = false := by rfl) : FE X E W (.Call (.Name "max" p) [e, e'] [] pos) (e2 opMax2 f g) :=
  fe_b2 A (call_max2 A.calm) opI2b_ok hm PyProof.Rows.boot_max he he' hg (by decide) (by decide) h1 h2 hpl
theorem fe_min2 (A : Amb Z X W N sc fs k) (hm : Z.mg ("min" : Str) = none) (he : FE X E W e f) (he' : FE X E W e' g) (hg : sc.names.lookup ("min" : Str) = some .globalImplicit := by rfl) (h1 : starEach [e, e'] X.env = (false, eval e X.env) :: starEach [e'] X.env := by rfl) (h2 : starEach [e'] X.env = (false, eval e' X.env) :: starEach [] X.env := by rfl)
    (hpl : (backTo pos (starEach [e'] X.env)).any (fun z => z.1) = false := by rfl) : FE X E W (.Call (.Name "min" p) [e, e'] [] pos) (e2 opMin2 f g) :=
  fe_b2 A (call_min2 A.calm) opI2b_ok hm PyProof.Rows.boot_min he he' hg (by decide) (by decide) h1 h2 hpl
end
/-! isinstance with a built-in class -/
@[simp] def tyName (M : Mem) : EV → Option String
  | .v .non => some "NoneType"
  | .v (.bl _) => some "bool"
  | .v (.int _) => some "int"
  | .v (.str _) => some "str"
  | .v (.tup _) => some "tuple"
  | .v (.lst _) => some "list"
  | .v (.rol _) => some "list"
  | .v (.dct _ _) => some "dict"
  | .v (.con _) => none
  | e => match asLst M e with
    | some _ => some "list"
    | none => match asDct M e with
      | some _ => some "dict"
      | none => none
theorem tyName_rep {E : Ent} {H0 : Hp} {G : Gh} {M : Mem} {s : L2.St} {H : Hp} {e : EV} {u : V} {t : String} (R : StRep X.K E G M s H) (r : RepE X.K E H0 G M s H e u) (h : tyName M e = some t) : TyX X.K H u (.type t) := by
  have lst : ∀ {a us}, SqL X.K H a us → TyX X.K H (.ref a) (.type "list") := fun {a us} q => by
    rcases q with (q | ⟨o, q⟩) | ⟨o, its, n, q, c, _⟩
    · exact .base (.lst q)
    · exact .base (.frz q)
    · exact .kList q c
  have dct : ∀ {a kvs}, Rd H a (.dK kvs) → TyX X.K H (.ref a) (.type "dict") := fun {a kvs} q => by
    rcases q with q | ⟨o, q⟩
    · exact .base (.dK q)
    · exact .fDict q
  have oth : ∀ {e : EV}, RepE X.K E H0 G M s H e u → (match asLst M e with | some _ => some "list" | none => match asDct M e with | some _ => some "dict" | none => none) = some t → TyX X.K H u (.type t) := fun {e} r h => by
    split at h
    · rename_i xs e1
      cases h
      obtain ⟨a, us, rfl, ha, _⟩ := lst_of R r e1
      exact lst ha
    · split at h
      · rename_i z e1
        cases h
        obtain ⟨ks, xs⟩ := z
        obtain ⟨a, us, rfl, ha, _⟩ := dct_of R r e1
        exact dct ha
      · cases h
  cases e with
  | v p =>
    have rv : RepV X.K G H p u := r
    cases p with
    | non => simp only [RepV] at rv; subst rv; cases h; exact .base .non
    | bl b => simp only [RepV] at rv; subst rv; cases h; exact .base (.bl b)
    | int b => simp only [RepV] at rv; subst rv; cases h; exact .base (.int b)
    | str b => simp only [RepV] at rv; subst rv; cases h; exact .base (.str b)
    | tup b =>
      cases h
      obtain ⟨a, us, rfl, q, _⟩ := tup_of rv
      rcases q with (q | ⟨o, q⟩) | ⟨o, its, n, q, c, _⟩
      · exact .base (.tup q)
      · exact .fTuple q
      · exact .kTuple q c
    | lst b => cases h; obtain ⟨a, us, rfl, ha, _⟩ := lst_of (xs := b) R r rfl; exact lst ha
    | rol b => cases h; obtain ⟨a, us, rfl, ha, _⟩ := lst_of (xs := b) R r rfl; exact lst ha
    | dct b c => cases h; obtain ⟨a, us, rfl, ha, _⟩ := dct_of (ks := b) (xs := c) R r rfl; exact dct ha
    | con a => cases h
    | ref c => exact oth r h
  | fr o => exact oth r h
  | sl i => exact oth r h
@[simp] def opIsi (T : String) : Op1 := fun x M => match tyName M x with
  | some t => (kitB t T).map fun b => .v (.bl b)
  | none => none
theorem fe_isi (A : Amb Z X W N sc fs k) {T : String} {x : Str} {e : Expr} {f : Sm EV} {p p2 pos : Pos} (hm : Z.mg ("isinstance" : Str) = none) (hmT : Z.mg x = none) (hv : bootBuiltins x = some (.type T)) (he : FE X E W e f) (hg : sc.names.lookup ("isinstance" : Str) = some .globalImplicit := by rfl) (hgT : sc.names.lookup x = some .globalImplicit := by rfl)
    (hn : x ≠ "__name__" := by decide) (hdb : (x == ("__debug__" : Str)) = false := by decide) (h1 : starEach [e, .Name x p2] X.env = (false, eval e X.env) :: starEach [.Name x p2] X.env := by rfl) : FE X E W (.Call (.Name "isinstance" p) [e, .Name x p2] [] pos) (e1 (opIsi T) f) := by
  refine ⟨PE.weak (pe_callB call_isi (A.gl hg) (A.no hm) PyProof.Rows.boot_isinstance (pa_cons he.pe (pa_cons (pe_bltn (v := .ty T) (A.gl hgT) (A.no hmT) hv rfl hn hdb) pa_nil) h1) (by decide) (by decide) h1) ?_⟩
  intro s H Q h
  refine tE_op1 (r := fun u H Q => rIsi X.K [u, .ty T] H Q) (fun E s G M H H0 x u ev Q R d rx e q => ?_) h
  simp only [opIsi] at e
  cases e1 : tyName M x with
  | none => rw [e1] at e; cases e
  | some t =>
    rw [e1] at e
    cases e2 : kitB t T with
    | none => simp only [e2] at e; cases e
    | some b =>
      simp only [e2] at e; cases e
      exact ⟨u, .ty T, .type t, .type T, b, rfl, .ty T, tyName_rep R rx e1, kit_ty e2, q G H _ (Evo.refl _ _ _ _) R repE_blI⟩
theorem boot_tint : bootBuiltins ("int" : Str) = some (.type "int") := PyProof.Rows.boot_int
theorem boot_tbool : bootBuiltins ("bool" : Str) = some (.type "bool") := PyProof.Rows.boot_bool
theorem boot_tstr : bootBuiltins ("str" : Str) = some (.type "str") := PyProof.Rows.boot_str
theorem boot_ttuple : bootBuiltins ("tuple" : Str) = some (.type "tuple") := PyProof.Rows.boot_tuple
theorem boot_tlist : bootBuiltins ("list" : Str) = some (.type "list") := PyProof.Rows.boot_list
theorem boot_tdict : bootBuiltins ("dict" : Str) = some (.type "dict") := PyProof.Rows.boot_dict
end
end HF

end
section
set_option Elab.async false
set_option linter.all false
set_option maxRecDepth 20000
set_option autoImplicit false
/-! HF10: things that change; join; the end of a law. -/
namespace HF
open PySem PySem.Spec PyProof.Rows L2
section
variable {X : Cx} {E : Ent} {W : WX} {N : List Str} {sc : Scope} {fs : Str → Bool} {k : Nat} {Z : Wd}
@[simp] def mutAt (M : Mem) : EV → Option PO
  | .sl i => match slotAt M i with
    | some (.own o) => some o
    | _ => none
  | .v (.ref r) => cellAt M r
  | _ => none
@[simp] def mutPut (x : EV) (o : PO) (M : Mem) : Mem := match x with
  | .sl i => ⟨M.r.set i (some (.own o)), M.h⟩
  | .v (.ref r) => ⟨M.r, M.h.set r o⟩
  | _ => M
theorem mut_ok {E : Ent} {s : L2.St} {G : Gh} {M : Mem} {H H0 : Hp} {x : EV} {u : V} {o : PO} (R : StRep X.K E G M s H) (rx : RepE X.K E H0 G M s H x u) (h : mutAt M x = some o) :
    ∃ a w, u = .ref a ∧ H a = some w ∧ RepO X.K G H o w ∧ ¬ G.F a ∧ ∀ o' w', RepO X.K G H o' w' → StRep X.K E G (mutPut x o' M) s (upd H a w') ∧ Evo s G M H G (mutPut x o' M) (upd H a w') := by
  cases x with
  | v p =>
    cases p <;> simp only [mutAt] at h <;> try cases h
    rename_i r
    have rx : RepV X.K G H (.ref r) u := rx
    simp only [RepV] at rx
    obtain ⟨a, rfl, ha⟩ := rx
    have hr : M.h[r]? = some o := h
    obtain ⟨nf, w, h1, h2⟩ := R.hp.obj r a o ha hr
    exact ⟨a, w, rfl, h1, h2, nf, fun o' w' ro => R.celled hr ha ro⟩
  | fr o => cases h
  | sl i =>
    simp only [mutAt] at h
    split at h
    · rename_i eo
      cases h
      have ei := slotAt_some eo
      obtain ⟨a, w, e1, h1, h2, h3, h4, h5⟩ := R.own i o ei
      have rx : s[i]? = some (some u) := rx
      rw [e1] at rx; cases rx
      exact ⟨a, w, rfl, h1, h2, h4, fun o' w' ro => R.wrote ei e1 ro⟩
    · cases h
theorem repE_non {E : Ent} {H0 : Hp} {G : Gh} {M : Mem} {s : L2.St} {H : Hp} : RepE X.K E H0 G M s H (.v .non) .non := show RepV X.K G H .non _ by simp only [RepV]

/-! ### methods of lists -/
/-- a list's method of one argument: the list behind it, what is told -/
@[simp] def eM1 (op : List PV → EV → Mem → Option (List PV × PV)) (f g : Sm EV) : Sm EV := fun M => (f M).bnd fun x M1 => match asLst M1 x with
  | none => .bad
  | some _ => (g M1).bnd fun y M2 => match mutAt M2 x with
    | some (.lst xs) => match op xs y M2 with
      | some (ys, p) => .ok (.v p) (mutPut x (.lst ys) M2)
      | none => .bad
    | _ => .bad
def M1Ok (X : Cx) (r : V → List V → Hp → VK → Prop) (op : List PV → EV → Mem → Option (List PV × PV)) : Prop := ∀ (E : Ent) (s : L2.St) (G : Gh) (M : Mem) (H H0 : Hp) (a : Addr) (us : List V) (xs ys : List PV) (y : EV) (v : V) (p : PV) (Q : VK), StRep X.K E G M s H →
  H a = some (.lst us) → us.length ≤ sizeLine → RepVs X.K G H xs us → RepE X.K E H0 G M s H y v → op xs y M = some (ys, p) → (∀ ws w, RepVs X.K G H ys ws → ws.length ≤ sizeLine → RepV X.K G H p w → Q w (upd H a (.lst ws))) → r (.ref a) [v] H Q
theorem tyL {K : PySem.W.Frag} {H : Hp} {a : Addr} {us : List V} (h : SqL K H a us) : tyV K "list" (.ref a) H := .inl ⟨rfl, us, h⟩
theorem tE_m1 {f g : Sm EV} {r : V → List V → Hp → VK → Prop} {op : List PV → EV → Mem → Option (List PV × PV)} (ok : M1Ok X r op) {s : L2.St} {H : Hp} {Q : VK} (h : tE X E W (eM1 op f g) s H Q) : tBM X.K "list" r (tE X E W f) (tCons (tE X E W g) tNil) s H Q := by
  obtain ⟨G, M, R, h⟩ := h
  refine tE_one R h fun G1 M1 H1 x u V1 R1 rx h1 => ?_
  split at h1
  · exact h1.elim
  · rename_i zs ez
    obtain ⟨b, bs, rfl, hb, _⟩ := lst_of R1 rx ez
    refine ⟨tyL hb, tE_one R1 h1 fun G2 M2 H2 y v V2 R2 ry h2 => ?_⟩
    split at h2
    · rename_i xs em
      obtain ⟨a, w, ea, h3, ⟨us, rfl, z, rr⟩, nf, wr⟩ := mut_ok R2 (rx.evo V2) em
      cases ea
      cases eo : op xs y M2 with
      | none => rw [eo] at h2; exact h2.elim
      | some q =>
        obtain ⟨ys, p⟩ := q
        rw [eo] at h2
        refine ok E s G2 M2 H2 H1 b us xs ys y v p Q R2 h3 z rr ry eo fun ws w rw' zw rp => ?_
        obtain ⟨R3, V3⟩ := wr (.lst ys) (.lst ws) ⟨ws, rfl, zw, rw'⟩
        exact h2 G2 _ V3 R3 w (RepV.mono V3.ext _ _ rp)
    · exact h2.elim
section
variable {o e : Expr} {f g : Sm EV} {apos cpos : Pos} {name : Str} {id : String}
theorem fe_m1 {r : V → List V → Hp → VK → Prop} {op : List PV → EV → Mem → Option (List PV × PV)} (slot : Slot "list" name id) (hty : typeOf (.builtin id) = pure (.type "method_descriptor")) (hm : MtR X id r) (ok : M1Ok X r op) (ho : FE X E W o f) (he : FE X E W e g)
    (hbase : attributeBase o name X.env (eval o X.env) = eval o X.env)
    (hfew : ((backTo cpos (starEach [e] X.env)).all (fun x => !x.1) && (backToKw cpos (keywordEach [] X.env)).all (fun x => x.1.isSome)
      && decide ([e].length + ([] : List Keyword).length + (if ([] : List Keyword).isEmpty then 0 else 1) < 30)) = true)
    (hline : (apos.endLine == cpos.line) = true) (hs : starEach [e] X.env = (false, eval e X.env) :: starEach [] X.env) : FE X E W (.Call (.Attribute o name apos) [e] [] cpos) (eM1 op f g) :=
  ⟨PE.weak (pe_bm PySem.F.plainAttrs_list slot hty hm ho.pe (pa_cons he.pe pa_nil hs) hbase hfew hline hs) fun _ _ _ h => tE_m1 ok h⟩
end
/-- a value beside: frozen or at once -/
@[simp] def evP (M : Mem) (y : EV) : Option PV := match y with
  | .v p => some p
  | _ => none
@[simp] def opApp : List PV → EV → Mem → Option (List PV × PV) := fun xs y M => match evP M y with
  | some p => if xs.length < sizeLine then some (xs ++ [p], .non) else none
  | none => none
theorem opApp_ok : M1Ok X rAppend opApp := by
  intro E s G M H H0 a us xs ys y v p Q R h z rr ry e q
  simp only [opApp] at e
  split at e
  · rename_i p' ep
    split at e
    · rename_i lt
      cases e
      cases y <;> simp only [evP] at ep <;> cases ep
      have lt' : us.length < sizeLine := by rw [← rr.length]; exact lt
      exact ⟨a, us, v, rfl, rfl, h, lt', q _ _ (rr.snoc ry) (by simp; omega) (by simp only [RepV])⟩
    · cases e
  · cases e
/-- extend, by a list that may be known -/
def rExtR : V → List V → Hp → VK → Prop := fun x vs H Q => ∃ l b xs zs, x = .ref l ∧ vs = [.ref b] ∧ H l = some (.lst xs) ∧ Rd H b (.lst zs) ∧ xs.length + zs.length ≤ sizeLine ∧ Q .non (upd H l (.lst (xs ++ zs)))
theorem mt_extR : MtR X "list.extend" rExtR := by
  intro pins s σ H x vs v us Q I rx rv h
  obtain ⟨l, b, xs, zs, rfl, rfl, hH, hB, hz, q⟩ := h
  cases rx
  obtain ⟨u, rfl, ru⟩ := rv.one
  cases ru
  obtain ⟨z, its, n, r, hl, e⟩ := I.lstM hH
  obtain ⟨z2, its2, n2, r2, e2⟩ : ObjOk X.prog X.w H s.heap b (.lst zs) := hB.ok I.hok
  have hl2 := r2.length
  have hsz : its.toArray.size + its2.toArray.size ≤ sizeLine := by rw [List.size_toArray, List.size_toArray]; omega
  have hlong : ¬ (!its.toArray.isEmpty && Builtin.List.listTooLong (its.toArray.size + its2.toArray.size)) = true := by
    rw [notLongL hsz, Bool.and_false]; exact Bool.false_ne_true
  refine call_meets F.slot_list_extend ⟨_, e, rfl⟩ F.entry_list_extend (F.args_list_extend_2 _ _) (AutoSeq1.list_extend_list_list_0 l its.toArray n b its2.toArray n2 hlong (by rw [List.size_toArray]; omega) (by omega)) ⟨e, e2, ?_⟩
  exact ⟨.non, _, I.lset (its' := its ++ its2) hH e (by simp) (r.append r2) (by rw [List.length_append]; omega), rfl, q⟩
@[simp] def opExt : List PV → EV → Mem → Option (List PV × PV) := fun xs y M => match asLstR M y with
  | some zs => if xs.length + zs.length ≤ sizeLine then some (xs ++ zs, .non) else none
  | none => none
theorem opExt_ok : M1Ok X rExtR opExt := by
  intro E s G M H H0 a us xs ys y v p Q R h z rr ry e q
  simp only [opExt] at e
  split at e
  · rename_i zs ez
    split at e
    · rename_i lt
      cases e
      obtain ⟨b, bs, rfl, hb, rb, zb⟩ := lstR_of R ry ez
      have l1 := rr.length
      have l2 := rb.length
      exact ⟨a, b, us, bs, rfl, rfl, h, hb, by omega, q _ _ (rr.append rb) (by rw [List.length_append]; omega) (by simp only [RepV])⟩
    · cases e
  · cases e
/-- pop(i) -/
@[simp] def opPopAt : List PV → EV → Mem → Option (List PV × PV) := fun xs y _ => match y with
  | .v (.int i) => if decide (i.natAbs < 2 ^ 62) = true then (match seqIndex? i xs.length with
    | some k => (xs[k]?).map fun p => (xs.eraseIdx k, p)
    | none => none) else none
  | _ => none
theorem opPopAt_ok : M1Ok X rPopAt opPopAt := by
  intro E s G M H H0 a us xs ys y v p Q R h z rr ry e q
  simp only [opPopAt] at e
  split at e
  · rename_i i
    split at e
    · rename_i hi
      have hi := of_decide_eq_true hi
      split at e
      · rename_i j ej
        cases e1 : xs[j]? with
        | none => rw [e1] at e; cases e
        | some p' =>
          rw [e1] at e; cases e
          obtain ⟨w, e2, rw'⟩ := rr.get e1
          rw [rr.length] at ej
          exact ⟨a, us, i, j, w, rfl, by rw [repE_int ry], h, by omega, by omega, ej, e2, q _ _ (rr.eraseIdx j) (Nat.le_trans (len_erase _ _) z) rw'⟩
      · cases e
    · cases e
  · cases e
section
variable {o e : Expr} {f g : Sm EV} {apos cpos : Pos}
end
end
end HF

end
section
set_option Elab.async false
set_option linter.all false
set_option maxRecDepth 20000
set_option autoImplicit false
/-! HF11: the methods by name; stores by subscript; join; a law's end. -/
namespace HF
open PySem PySem.Spec PyProof.Rows L2
section
variable {X : Cx} {E : Ent} {W : WX} {N : List Str} {sc : Scope} {fs : Str → Bool} {k : Nat} {Z : Wd}
section
variable {o e : Expr} {f g : Sm EV} {h : Sm PV} {apos cpos : Pos}
@[simp] def pV (f : Sm PV) : Sm EV := fun M => (f M).bnd fun p M1 => .ok (.v p) M1
theorem fe_append (ho : FE X E W o f) (he : FP X E W e h) (hbase : attributeBase o "append" X.env (eval o X.env) = eval o X.env := by rfl)
    (hfew : ((backTo cpos (starEach [e] X.env)).all (fun x => !x.1) && (backToKw cpos (keywordEach [] X.env)).all (fun x => x.1.isSome) && decide ([e].length + ([] : List Keyword).length + (if ([] : List Keyword).isEmpty then 0 else 1) < 30)) = true := by rfl)
    (hline : (apos.endLine == cpos.line) = true := by rfl) (hs : starEach [e] X.env = (false, eval e X.env) :: starEach [] X.env := by rfl) : FE X E W (.Call (.Attribute o "append" apos) [e] [] cpos) (eM1 opApp f (pV h)) :=
  fe_m1 PySem.F.slot_list_append PySem.F.type_list_append mt_append opApp_ok ho he.fe hbase hfew hline hs
theorem fe_extend (ho : FE X E W o f) (he : FE X E W e g) (hbase : attributeBase o "extend" X.env (eval o X.env) = eval o X.env := by rfl)
    (hfew : ((backTo cpos (starEach [e] X.env)).all (fun x => !x.1) && (backToKw cpos (keywordEach [] X.env)).all (fun x => x.1.isSome) && decide ([e].length + ([] : List Keyword).length + (if ([] : List Keyword).isEmpty then 0 else 1) < 30)) = true := by rfl)
    (hline : (apos.endLine == cpos.line) = true := by rfl) (hs : starEach [e] X.env = (false, eval e X.env) :: starEach [] X.env := by rfl) : FE X E W (.Call (.Attribute o "extend" apos) [e] [] cpos) (eM1 opExt f g) :=
  fe_m1 PySem.F.slot_list_extend PySem.F.type_list_extend mt_extR opExt_ok ho he hbase hfew hline hs
theorem fe_popAt (ho : FE X E W o f) (he : FE X E W e g) (hbase : attributeBase o "pop" X.env (eval o X.env) = eval o X.env := by rfl)
    (hfew : ((backTo cpos (starEach [e] X.env)).all (fun x => !x.1) && (backToKw cpos (keywordEach [] X.env)).all (fun x => x.1.isSome) && decide ([e].length + ([] : List Keyword).length + (if ([] : List Keyword).isEmpty then 0 else 1) < 30)) = true := by rfl)
    (hline : (apos.endLine == cpos.line) = true := by rfl) (hs : starEach [e] X.env = (false, eval e X.env) :: starEach [] X.env := by rfl) : FE X E W (.Call (.Attribute o "pop" apos) [e] [] cpos) (eM1 opPopAt f g) :=
  fe_m1 PySem.F.slot_list_pop PySem.F.type_list_pop mt_popAt opPopAt_ok ho he hbase hfew hline hs
/-- pop() -/
@[simp] def ePop (f : Sm EV) : Sm EV := fun M => (f M).bnd fun x M1 => match mutAt M1 x with
  | some (.lst xs) => match xs[xs.length - 1]? with
    | some p => .ok (.v p) (mutPut x (.lst xs.dropLast) M1)
    | none => .bad
  | _ => .bad
theorem fe_pop (ho : FE X E W o f) (hbase : attributeBase o "pop" X.env (eval o X.env) = eval o X.env := by rfl) (hline : (apos.endLine == cpos.line) = true := by rfl) : FE X E W (.Call (.Attribute o "pop" apos) [] [] cpos) (ePop f) := by
  refine ⟨PE.weak (pe_bm0 PySem.F.plainAttrs_list PySem.F.slot_list_pop PySem.F.type_list_pop mt_pop ho.pe hbase hline) ?_⟩
  rintro s H Q ⟨G, M, R, h⟩
  refine tE_one R h fun G1 M1 H1 x u V1 R1 rx h1 => ?_
  split at h1
  · rename_i xs em
    obtain ⟨a, w, rfl, h3, ⟨us, rfl, z, rr⟩, nf, wr⟩ := mut_ok R1 rx em
    split at h1
    · rename_i p ep
      obtain ⟨w, e2, rw'⟩ := rr.get ep
      rw [rr.length] at e2
      obtain ⟨R3, V3⟩ := wr (.lst xs.dropLast) (.lst us.dropLast) ⟨_, rfl, by simp; omega, rr.dropLast⟩
      exact ⟨tyL (SqL.of h3), a, us, w, rfl, rfl, h3, e2, h1 G1 _ V3 R3 w (RepV.mono V3.ext _ _ rw')⟩
    · exact h1.elim
  · exact h1.elim
/-- sep.join(texts) -/
@[simp] def strsIn (M : Mem) (y : EV) : Option (List Str) := match y with
  | .v (.tup xs) => asStrs xs
  | y => (asLst M y).bind asStrs
@[simp] def eJoin (f g : Sm EV) : Sm EV := fun M => (f M).bnd fun x M1 => match x with
  | .v (.str a) => (g M1).bnd fun y M2 => match strsIn M2 y with
    | some ys => if (ys.map (·.length)).sum + ys.length * a.length ≤ 16777216 then .ok (.v (.str (Txt.join a ys))) M2 else .bad
    | none => .bad
  | _ => .bad
theorem repE_strI {E : Ent} {H0 : Hp} {G : Gh} {M : Mem} {s : L2.St} {H : Hp} {z : Str} : RepE X.K E H0 G M s H (.v (.str z)) (.str z) := show RepV X.K G H (.str z) _ by simp only [RepV]
theorem fe_join (ho : FE X E W o f) (he : FE X E W e g) (hs : starEach [e] X.env = [(false, eval e X.env)] := by rfl) (hbase : attributeBase o "join" X.env (eval o X.env) = eval o X.env := by rfl) (hline : (apos.endLine == cpos.line) = true := by rfl) : FE X E W (.Call (.Attribute o "join" apos) [e] [] cpos) (eJoin f g) := by
  refine ⟨PE.weak (pe_join ho.pe he.pe hs hbase hline) ?_⟩
  rintro s H Q ⟨G, M, R, h⟩
  refine tE_one R h fun G1 M1 H1 x u V1 R1 rx h1 => ?_
  split at h1
  · rename_i a
    have eu := repE_str rx
    subst eu
    refine ⟨⟨a, rfl⟩, tE_one R1 h1 fun G2 M2 H2 y v V2 R2 ry h2 => ?_⟩
    split at h2
    · rename_i ys ey
      split at h2
      · rename_i hz
        have fin := OutP.now h2 R2 _ repE_strI
        simp only [strsIn] at ey
        split at ey
        · obtain ⟨b, us, rfl, hb, rb, zb⟩ := repE_tup ry
          have eu := asStrs_rep ey rb
          subst eu
          exact ⟨a, b, ys, rfl, rfl, .inr hb, hz, fin⟩
        · cases e1 : asLst M2 y with
          | none => rw [e1] at ey; cases ey
          | some xs =>
            rw [e1] at ey
            obtain ⟨b, us, rfl, hb, rb, zb⟩ := lst_of R2 ry e1
            have eu := asStrs_rep ey rb
            subst eu
            exact ⟨a, b, ys, rfl, rfl, .inl hb, hz, fin⟩
      · exact h2.elim
    · exact h2.elim
  · exact h1.elim
end

/-! ### o[i] = value -/
def dPutV : List Key → List PV → Key → PV → List PV
  | q :: ks, x :: xs, k, p => (if q = k then p else x) :: dPutV ks xs k p
  | _, _, _, _ => []
def dStore (ks : List Key) (xs : List PV) (k : Key) (p : PV) : List Key × List PV := if (ks.any fun q => decide (q = k)) = true then (ks, dPutV ks xs k p) else (ks ++ [k], xs ++ [p])
theorem dPutV_rep {K : PySem.W.Frag} {G : Gh} {H : Hp} {k : Key} {p : PV} {v : V} (rp : RepV K G H p v) : ∀ {kvs : List (Key × V)} {xs : List PV}, RepVs K G H xs (kvs.map (·.2)) →
    RepVs K G H (dPutV (kvs.map (·.1)) xs k p) ((kvs.map fun kv => if kv.1 = k then (kv.1, v) else kv).map (·.2))
  | [], xs, r => by simpa [dPutV] using RepVs.nil
  | (q, w) :: kvs, xs, r => by
    cases xs with
    | nil => have := r.length; simp at this
    | cons x xs =>
      obtain ⟨u, us, e2, r1, r2⟩ := RepVs.cons_iff.mp r
      cases e2
      simp only [List.map_cons, dPutV]
      by_cases h : q = k
      · rw [if_pos h, if_pos h]; exact RepVs.cons rp (dPutV_rep rp r2)
      · rw [if_neg h, if_neg h]; exact RepVs.cons r1 (dPutV_rep rp r2)
theorem dStore_rep {K : PySem.W.Frag} {G : Gh} {H : Hp} {k : Key} {p : PV} {v : V} {kvs : List (Key × V)} {xs : List PV} (rp : RepV K G H p v) (r : RepVs K G H xs (kvs.map (·.2))) (z : kvs.length < sizeLine) :
    RepO K G H (.dct (dStore (kvs.map (·.1)) xs k p).1 (dStore (kvs.map (·.1)) xs k p).2) (.dK (putK kvs k v)) := by
  have ek : ((kvs.map (·.1)).any fun q => decide (q = k)) = kvs.any fun kv => decide (kv.1 = k) := by rw [List.any_map]; rfl
  refine ⟨_, rfl, Nat.le_trans (length_putK kvs k v) z, ?_, ?_⟩
  · unfold putK dStore
    rw [ek]
    by_cases h' : (kvs.any fun kv => decide (kv.1 = k)) = true
    · rw [if_pos h', if_pos h', List.map_map]
      apply List.map_congr_left
      intro a _
      simp only [Function.comp]
      split <;> rfl
    · rw [if_neg h', if_neg h']
      simp
  · unfold putK dStore
    rw [ek]
    by_cases h' : (kvs.any fun kv => decide (kv.1 = k)) = true
    · rw [if_pos h', if_pos h']
      exact dPutV_rep rp r
    · rw [if_neg h', if_neg h', List.map_append]
      exact r.snoc rp
def rSetA : V → V → V → Hp → (Hp → Prop) → Prop := fun o i v H Q => rSetL o i v H Q ∨ ∃ a H4, o = .ref a ∧ DPut H a i v H4 ∧ Q H4
theorem set_any (hu : X.A.units + 1 < cLine) : PSet X rSetA := by
  intro pins s σ H o i v ov iv u Q I ro ri rv h
  rcases h with h | ⟨a, H4, rfl, g, q⟩
  · exact set_list pins s σ H o i v ov iv u Q I ro ri rv h
  · cases ro
    exact d_setItem hu I g ri rv fun s4 I4 => ⟨H4, I4, q⟩
@[simp] def sSub (fv : Sm PV) (fo fi : Sm EV) : Ss := fun M => (fv M).st fun p M1 => (fo M1).st fun x M2 => (fi M2).st fun y M3 => match mutAt M3 x with
  | some (.lst xs) => match y with
    | .v (.int i) => match ixN xs.length i with
      | some j => .nx (mutPut x (.lst (xs.set j p)) M3)
      | none => .bad
    | _ => .bad
  | some (.dct ks xs) => match keyOf y with
    | some q => if ks.length < sizeLine then .nx (mutPut x (.dct (dStore ks xs q p).1 (dStore ks xs q p).2) M3) else .bad
    | none => .bad
  | _ => .bad
theorem fs_sub (A : Amb Z X W N sc fs k) {o i e : Expr} {fv : Sm PV} {fo fi : Sm EV} {pos p2 : Pos} (he : FP X E W e fv) (ho : FE X E W o fo) (hi : FE X E W i fi) (hg : PSet X rSetA → PG X (.Subscript o i p2) (gSub (tE X E W fo) (tE X E W fi) rSetA))
    (hs : swapsWithSole [.Subscript o i p2] e pos.line X.env = pure false := by rfl) (hw : swappedStores [.Subscript o i p2] e X.env = pure none := by rfl) (h1 : (assignEach [.Subscript o i p2] X.env).map (·.2) = [assign (.Subscript o i p2) X.env] := by rfl) :
    FS X E W (.Assign [.Subscript o i p2] e pos) (sSub fv fo fi) := by
  refine ⟨PS.weak (ps_asg he.pe (hg (set_any A.u1)) hs hw h1) ?_⟩
  rintro D s H ⟨G, M, R, h⟩
  refine tP_st R h fun G1 M1 H1 p u V1 R1 rp q => ?_
  refine tE_st R1 q fun G2 M2 H2 x v V2 R2 rx q2 => ?_
  refine tE_st R2 q2 fun G3 M3 H3 y w V3 R3 ry q3 => ?_
  have rp3 := RepV.mono (V2.trans V3).ext _ _ rp
  split at q3
  · rename_i xs em
    obtain ⟨a, t, rfl, h3, ⟨us, rfl, z, rr⟩, nf, wr⟩ := mut_ok R3 (rx.evo V3) em
    split at q3
    · rename_i j
      split at q3
      · rename_i n en
        rw [rr.length] at en
        obtain ⟨R4, V4⟩ := wr (.lst (xs.set n p)) (.lst (us.set n u)) ⟨_, rfl, by simpa using z, rr.set n rp3⟩
        exact .inl ⟨a, us, j, n, rfl, repE_int ry, h3, en, q3 G3 s _ V4.ext R4⟩
      · exact q3.elim
    · exact q3.elim
  · rename_i ks xs em
    obtain ⟨a, t, rfl, h3, ⟨kvs, rfl, z, hk, rr⟩, nf, wr⟩ := mut_ok R3 (rx.evo V3) em
    split at q3
    · rename_i q eq
      split at q3
      · rename_i lt
        subst hk
        have lt' : kvs.length < sizeLine := by simpa using lt
        obtain ⟨R4, V4⟩ := wr _ _ (dStore_rep rp3 rr lt' (k := q))
        refine .inr ⟨a, _, rfl, ?_, q3 G3 s _ V4.ext R4⟩
        rw [key_rep ry eq]
        exact DPut.k h3 lt'
      · exact q3.elim
    · exact q3.elim
  · exact q3.elim
end

/-! ### a law's end -/
theorem law_sp {K : PySem.W.Frag} {mg : Str → Option Value} {φ : Fn} (hφ : ∀ ns : List Int, ns.length ≤ 63 → ∃ h', φ [.rol (ns.map .int)] [] = .ok (.v (.bl true)) h') (H : Hp) (a : Addr) (ns : List Int) (hn : ns.length ≤ 63) (hS : SqL K H a (ns.map V.int)) :
    spOf K mg φ [.ref a] H (fun v _ => v = .bl true) fun _ _ _ => False := by
  obtain ⟨h', e⟩ := hφ ns hn
  have reps : ∀ ms : List Int, RepVs K ⟨fun b => b = a ∧ H b ≠ none, []⟩ H (ms.map .int) (ms.map V.int) := fun ms => by
    induction ms with
    | nil => exact RepVs.nil
    | cons m ms ih => exact RepVs.cons (by simp only [RepV]) ih
  refine ⟨⟨fun b => b = a ∧ H b ≠ none, []⟩, [], [.rol (ns.map .int)], ⟨fun b hb => hb.2, List.nodup_nil, rfl, fun r b o hb => by simp at hb⟩, RepVs.cons ?_ RepVs.nil, ?_⟩
  · simp only [RepV]
    refine ⟨a, ns.map V.int, rfl, ⟨by rw [List.length_map, sizeLine_eq]; omega, ?_⟩, reps ns⟩
    rcases hS with h | h
    · refine .inl ⟨⟨rfl, fun z => ?_⟩, h⟩
      rcases h with h | ⟨o, h⟩ <;> (rw [z] at h; cases h)
    · exact .inr (.inr h)
  · rw [e]
    intro G' H' u _ _ ru
    have ru : RepV K G' H' (.bl true) u := ru
    simpa only [RepV] using ru
theorem CX_false {P : Program} {w : World} {H : Hp} {s : Shared} {e : Value} {s' : Shared} (h : L2.CX P w [] H s (fun _ _ _ => False) e s') : False := by
  obtain ⟨_, _, _, _, _, _, _, _, _, _, _, _, z⟩ := h
  exact z
end HF

end
section
set_option Elab.async false
set_option linter.all false
set_option maxRecDepth 20000
set_option autoImplicit false
/-! HF12: a def as the top has left it. -/
namespace HF
open PySem PySem.Spec PyProof.Rows L2
structure DefAt (Z : Wd) (x : Str) (st : Stmt) (ps : List Str) : Prop where
  ok : ∃ f fd, Fun Z.K x x st f fd ∧ Z.mg x = some (.ref f) ∧ Binds Z.K fd ps []
theorem DefAt.known {Z : Wd} {x : Str} {st : Stmt} {ps : List Str} {k : Nat} {φ : Fn} (h : DefAt Z x st ps) (d : ∀ f fd, Fun Z.K x x st f fd → FnOk Z.P Z.w Z.K Z.mg Z.base (L2.CX Z.P Z.w) k f fd ps (spOf Z.K Z.mg φ)) : Known Z k x [] φ := by
  obtain ⟨f, fd, F, m, b⟩ := h.ok
  exact ⟨f, fd, ps, [], [], d f fd F, m, F.kp, b, .nil, fun _ _ => RepVs.nil⟩
/-- nothing is promised without levels -/
theorem DefAt.none {Z : Wd} {x : Str} {st : Stmt} {ps : List Str} {k : Nat} (h : DefAt Z x st ps) : Known Z k x [] (fun _ _ => .bad) := by
  refine h.known fun f fd F => ⟨fun vs H Q Ex ⟨G, hh, p, _, _, z⟩ => z.elim, fun A outer s H args us vs Q Ex _ _ _ _ ⟨G, hh, p, _, _, z⟩ => z.elim⟩
structure StrAt (Z : Wd) (x : Str) (y : Str) : Prop where
  ok : ∃ t, Z.mg x = some (.str y t)
structure IntAt (Z : Wd) (x : Str) (y : Int) : Prop where
  ok : ∃ t, Z.mg x = some (.int y t)
/-! ### from the facts of the top -/
theorem defAt_mk {P : Program} {w : World} {K : PySem.W.Frag} {mg : Str → Option Value} {base h : Heap} {x : Str} {st : Stmt} {ps : List Str} {f : Addr} {oc kV doc pm cdv ct : Value} {od an : Option Addr} {osl : Array (Option Value)}
    (X : K.In h) (G : h.Ns mainGlobals mg) (a : PySem.W.nsIn K mainGlobals x = some (some (.ref f)))
    (l : K.lookup f = some ⟨oc, od, .func (PySem.W.fnOf x x (defArgs st) (defBody st) (defScope st) .none kV doc pm an cdv ct), osl⟩)
    (c : PySem.W.codeIn K cdv x = true) (k : PySem.W.keepIn K (.ref f) = true)
    (hb : ∀ (kV doc pm : Value) (an : Option Addr) (cdv ct : Value) (us : List Value), us.length = ps.length → bindArgs (PySem.W.fnOf x x (defArgs st) (defBody st) (defScope st) .none kV doc pm an cdv ct) ⟨us, []⟩ = pure (ps.zip us)) : DefAt ⟨P, w, K, mg, base⟩ x st ps :=
  have F := fun_mk (st := st) l c k
  ⟨f, _, F, PySem.W.mg_of X G a, F.binds hb⟩
/-- a law's promise, whatever the module's names stand for -/
def spTop (K : PySem.W.Frag) (φ : Fn) : Sp := fun vs H Q Ex => ∀ mg, spOf K mg φ vs H Q Ex
end HF

end
section
set_option Elab.async false
set_option linter.all false
set_option maxRecDepth 20000
set_option autoImplicit false
/-! HF13: in, not in; -x; x += y; a list so many times; divmod; enumerate. -/
namespace HF
open PySem PySem.Spec PyProof.Rows L2
section
variable {X : Cx} {E : Ent} {W : WX} {N : List Str} {sc : Scope} {fs : Str → Bool} {k : Nat} {Z : Wd}

/-! ### in -/
/-- what is walked: the items of a tuple or a list -/
@[simp] def asSeq (M : Mem) (e : EV) : Option (List PV) := match e with
  | .v (.tup xs) => some xs
  | e => asLst M e
@[simp] def inI : Cp2 := fun x y M => match x with
  | .v (.int i) => ((asSeq M y).bind asInts).map fun ns => decide (i ∈ ns)
  | _ => none
@[simp] def inT : Cp2 := fun x y M => match x with
  | .v (.str i) => ((asSeq M y).bind asStrs).map fun ns => decide (i ∈ ns)
  | _ => none
@[simp] def inC : Cp2 := fun x y _ => match x, y with
  | .v (.str i), .v (.str z) => match i.cps.toList with
    | [c] => some (decide (c ∈ z.cps.toList))
    | _ => none
  | _, _ => none
@[simp] def inK : Cp2 := fun x y M => match keyOf x, asDct M y with
  | some q, some (ks, _) => some (ks.any fun p => decide (p = q))
  | _, _ => none
@[simp] def inD : Cp2 := fun x y M => match evD M x, evD M y with
  | some d, some (.list ds) => if SeqAt.shaped d && SeqAt.shaped (.list ds) then some (ds.any fun z => PyData.eqv z d) else none
  | _, _ => none
theorem asSeq_of {E : Ent} {H0 : Hp} {G : Gh} {M : Mem} {s : L2.St} {H : Hp} {y : EV} {v : V} {xs : List PV} (R : StRep X.K E G M s H) (r : RepE X.K E H0 G M s H y v) (h : asSeq M y = some xs) : ∃ a us, v = .ref a ∧ (SqL X.K H a us ∨ SqT X.K H a us) ∧ RepVs X.K G H xs us := by
  unfold asSeq at h
  split at h
  · cases h
    obtain ⟨a, us, rfl, ha, ra, za⟩ := repE_tup r
    exact ⟨a, us, rfl, .inr ha, ra⟩
  · obtain ⟨a, us, rfl, ha, ra, za⟩ := lst_of R r h
    exact ⟨a, us, rfl, .inl ha, ra⟩
theorem inV_ints (i : Int) (ns : List Int) : inV (.int i) (ns.map V.int) = decide (i ∈ ns) := by
  unfold inV
  rw [List.any_map]
  induction ns with
  | nil => simp
  | cons n ns ih =>
    rw [List.any_cons, ih]
    simp only [Function.comp, eqV, List.mem_cons]
    by_cases h : i = n
    · simp [h]
    · simp [h, Ne.symm h]
theorem inV_strs (i : Str) (ns : List Str) : inV (.str i) (ns.map V.str) = decide (i ∈ ns) := by
  unfold inV
  rw [List.any_map]
  induction ns with
  | nil => simp
  | cons n ns ih =>
    rw [List.any_cons, ih]
    simp only [Function.comp, eqV, List.mem_cons]
    by_cases h : i = n
    · simp [h]
    · simp [h, Ne.symm h]
def rInA (K : PySem.W.Frag) (neg : Bool) : R2 := fun x y H Q => rIn K neg x y H Q ∨ (∃ c z, x = .str ⟨#[c]⟩ ∧ y = .str z ∧ Q (.bl (if neg then !decide (c ∈ z.cps.toList) else decide (c ∈ z.cps.toList))) H) ∨ (∃ a o, y = .ref a ∧ DGet H a x o ∧ Q (.bl (if neg then !o.isSome else o.isSome)) H) ∨
  ∃ d ds, Dp K H x d ∧ Dp K H y (.list ds) ∧ SeqAt.shaped d = true ∧ SeqAt.shaped (.list ds) = true ∧ Q (.bl (if neg then !(ds.any fun z => PyData.eqv z d) else ds.any fun z => PyData.eqv z d)) H
theorem op_inA (A : Amb Z X W N sc fs k) : OpR X (compareOp .In) (rInA X.K false) := by
  intro pins s σ H x y v u Q I rx ry h
  rcases h with h | h | ⟨a, o, rfl, g, q⟩ | h
  · exact op_in_seq pins s σ H x y v u Q I rx ry h
  · exact op_in_sign pins s σ H x y v u Q I rx ry h
  · cases ry
    exact d_in A.u1 I g rx fun s' I' => ⟨.bl _, H, I', rfl, q⟩
  · exact op_inD A.u65 pins s σ H x y v u Q I rx ry h
theorem op_niA (A : Amb Z X W N sc fs k) : OpR X (compareOp .NotIn) (rInA X.K true) := by
  intro pins s σ H x y v u Q I rx ry h
  rcases h with h | h | ⟨a, o, rfl, g, q⟩ | h
  · exact op_notIn_seq pins s σ H x y v u Q I rx ry h
  · exact op_notIn_sign pins s σ H x y v u Q I rx ry h
  · cases ry
    exact d_notIn A.u1 I g rx fun s' I' => ⟨.bl _, H, I', rfl, q⟩
  · exact op_notInD A.u65 pins s σ H x y v u Q I rx ry h
@[simp] def cpIn : Cp2 := fun x y M => (inI x y M).or ((inT x y M).or ((inC x y M).or ((inK x y M).or (inD x y M))))
@[simp] def cpNi : Cp2 := fun x y M => (cpIn x y M).map (!·)
theorem dGet_some : ∀ {ks : List Key} {xs : List PV} (q : Key), ks.length = xs.length → (dGet ks xs q).isSome = ks.any fun p => decide (p = q)
  | [], [], q, _ => rfl
  | k :: ks, x :: xs, q, h => by
    unfold dGet
    by_cases e : k = q
    · simp [e]
    · rw [if_neg e, dGet_some (ks := ks) (xs := xs) q (by simpa using h)]
      simp [e]
theorem sgn_of {i : Str} {c : Nat} (h : i.cps.toList = [c]) : i = ⟨#[c]⟩ := by
  obtain ⟨a⟩ := i
  have : a = #[c] := by rw [← Array.toList_inj]; exact h
  rw [this]
theorem cpIn_g (neg : Bool) {E : Ent} {s : L2.St} {G : Gh} {M : Mem} {H H0 : Hp} {x y : EV} {u v : V} {b : Bool} {Q : VK} (R : StRep X.K E G M s H) (rx : RepE X.K E H0 G M s H x u) (ry : RepE X.K E H0 G M s H y v) (e : cpIn x y M = some b) (q : Q (.bl (if neg then !b else b)) H) : rInA X.K neg u v H Q := by
  have hi : inI x y M = some b → rInA X.K neg u v H Q := fun e => by
    simp only [inI] at e
    split at e
    · rename_i i
      cases e1 : asSeq M y with
      | none => rw [e1] at e; cases e
      | some xs =>
        rw [e1] at e
        simp only [Option.bind_some] at e
        cases e2 : asInts xs with
        | none => rw [e2] at e; cases e
        | some ns =>
          rw [e2] at e
          cases e
          obtain ⟨a, us, rfl, ha, ra⟩ := asSeq_of R ry e1
          have eu := asInts_rep e2 ra
          subst eu
          have ex := repE_int rx
          subst ex
          refine .inl ⟨a, ns.map V.int, rfl, ha, rfl, ?_, ?_⟩
          · rw [List.all_map]; exact List.all_eq_true.mpr fun _ _ => rfl
          · rw [inV_ints]; exact q
    · cases e
  have ht : inT x y M = some b → rInA X.K neg u v H Q := fun e => by
    simp only [inT] at e
    split at e
    · rename_i i
      cases e1 : asSeq M y with
      | none => rw [e1] at e; cases e
      | some xs =>
        rw [e1] at e
        simp only [Option.bind_some] at e
        cases e2 : asStrs xs with
        | none => rw [e2] at e; cases e
        | some ns =>
          rw [e2] at e
          cases e
          obtain ⟨a, us, rfl, ha, ra⟩ := asSeq_of R ry e1
          have eu := asStrs_rep e2 ra
          subst eu
          have ex := repE_str rx
          subst ex
          refine .inl ⟨a, ns.map V.str, rfl, ha, rfl, ?_, ?_⟩
          · rw [List.all_map]; exact List.all_eq_true.mpr fun _ _ => rfl
          · rw [inV_strs]; exact q
    · cases e
  have hc : inC x y M = some b → rInA X.K neg u v H Q := fun e => by
    simp only [inC] at e
    split at e
    · split at e
      · rename_i c ec
        cases e
        have ex := repE_str rx
        have ey := repE_str ry
        exact .inr (.inl ⟨c, _, ex.trans (congrArg V.str (sgn_of ec)), ey, q⟩)
      · cases e
    · cases e
  have hk : inK x y M = some b → rInA X.K neg u v H Q := fun e => by
    simp only [inK] at e
    split at e
    · rename_i q0 ks xs e1 e2
      cases e
      have ex := key_rep rx e1
      subst ex
      obtain ⟨a, kvs, rfl, hr, hks, rr, z⟩ := dct_of R ry e2
      have g := dGet_rep q0 hks rr
      have gs := dGet_some (ks := ks) (xs := xs) q0 (by rw [← hks, rr.length]; simp)
      refine .inr (.inr (.inl ⟨a, valV kvs q0, rfl, rd_dget hr, ?_⟩))
      have : (valV kvs q0).isSome = ks.any fun p => decide (p = q0) := by
        rw [← gs]
        cases e3 : dGet ks xs q0 with
        | none => rw [e3] at g; simp only at g; rw [g]; rfl
        | some p => rw [e3] at g; obtain ⟨w, h1, h2⟩ := g; rw [h1]; rfl
      rw [this]; exact q
    · cases e
  have hd : inD x y M = some b → rInA X.K neg u v H Q := fun e => by
    simp only [inD] at e
    split at e
    · rename_i d ds e1 e2
      split at e
      · rename_i z
        rw [Bool.and_eq_true] at z
        cases e
        exact .inr (.inr (.inr ⟨d, ds, evD_rep R rx e1, evD_rep R ry e2, z.1, z.2, q⟩))
      · cases e
    · cases e
  unfold cpIn at e
  cases e1 : inI x y M with
  | some c => rw [e1] at e; cases e; exact hi e1
  | none =>
    rw [e1] at e
    cases e2 : inT x y M with
    | some c => rw [e2] at e; cases e; exact ht e2
    | none =>
      rw [e2] at e
      cases e3 : inC x y M with
      | some c => rw [e3] at e; cases e; exact hc e3
      | none =>
        rw [e3] at e
        cases e4 : inK x y M with
        | some c => rw [e4] at e; cases e; exact hk e4
        | none => rw [e4] at e; exact hd e
theorem cpIn_ok : Cp2Ok X (rInA X.K false) cpIn := fun E s G M H H0 x y u v b Q R rx ry e q => cpIn_g false R rx ry e q
theorem cpNi_ok : Cp2Ok X (rInA X.K true) cpNi := by
  intro E s G M H H0 x y u v b Q R rx ry e q
  unfold cpNi at e
  cases e1 : cpIn x y M with
  | none => rw [e1] at e; cases e
  | some c => rw [e1] at e; cases e; exact cpIn_g true R rx ry e1 q
section
variable {a b : Expr} {f g : Sm EV} {pos : Pos}
theorem fe_in (A : Amb Z X W N sc fs k) (ha : FE X E W a f) (hb : FE X E W b g) (hm : behindInMarks .In b = false := by rfl) : FE X E W (.Compare a [.In] [b] pos) (eB (b2 cpIn f g)) := fe_cmp (op_inA A) cpIn_ok ha hb hm
theorem ft_in (A : Amb Z X W N sc fs k) (ha : FE X E W a f) (hb : FE X E W b g) (hm : behindInMarks .In b = false := by rfl) : FT X E W (.Compare a [.In] [b] pos) (b2 cpIn f g) := ft_cmp (op_inA A) cpIn_ok ha hb hm
theorem fe_ni (A : Amb Z X W N sc fs k) (ha : FE X E W a f) (hb : FE X E W b g) (hm : behindInMarks .NotIn b = false := by rfl) : FE X E W (.Compare a [.NotIn] [b] pos) (eB (b2 cpNi f g)) := fe_cmp (op_niA A) cpNi_ok ha hb hm
theorem ft_ni (A : Amb Z X W N sc fs k) (ha : FE X E W a f) (hb : FE X E W b g) (hm : behindInMarks .NotIn b = false := by rfl) : FT X E W (.Compare a [.NotIn] [b] pos) (b2 cpNi f g) := ft_cmp (op_niA A) cpNi_ok ha hb hm
end

/-! ### -x -/
@[simp] def opNeg : Op1 := fun x _ => match x with
  | .v (.int i) => some (.v (.int (-i)))
  | _ => none
theorem opNeg_ok : Op1Ok X (rU fun i => .int (-i)) opNeg := by
  intro E s G M H H0 x u ev Q R d rx e q
  simp only [opNeg] at e
  split at e
  · cases e
    exact ⟨_, repE_int rx, q G H _ (Evo.refl _ _ _ _) R (show RepV X.K G H (.int _) _ by simp only [RepV])⟩
  · cases e
theorem fe_neg {a : Expr} {f : Sm EV} {pos : Pos} (ha : FE X E W a f) : FE X E W (.UnaryOp .USub a pos) (e1 opNeg f) :=
  ⟨PE.weak (pe_un un_neg ha.pe) fun _ _ _ h => tE_op1 opNeg_ok h⟩

/-! ### x += y: whole numbers -/
@[simp] def sAugAdd (i : Nat) (f : Sm EV) : Ss := fun M => match slotAt M i with
  | some (.v (.int a)) => (f M).st fun y M1 => match y with
    | .v (.int b) => .nx ⟨M1.r.set i (some (.v (.int (a + b)))), M1.h⟩
    | _ => .bad
  | _ => .bad
theorem fs_augadd (A : Amb Z X W N sc fs k) {x : Str} {i : Nat} {e : Expr} {f : Sm EV} {pos pos' : Pos} (hN : N[i]? = some x) (hl : locB sc fs x = true) (he : FE X E W e f) : FS X E W (.AugAssign (.Name x pos') .Add e pos) (sAugAdd i f) := by
  refine ⟨PS.weak (ps_aug (by rw [A.hN]; exact A.nd) (by rw [A.hN]; exact hN) (by rw [A.hs]; exact locB_loc hl) he.pe ip_add (locB_fn A hl)) ?_⟩
  rintro D s H ⟨G, M, R, h⟩
  simp only [sAugAdd] at h
  split at h
  · rename_i a ea
    obtain ⟨u, e1, r1⟩ := R.slot i _ (slotAt_some ea)
    simp only [RepV] at r1
    subst r1
    refine ⟨_, e1, tE_st R h fun G1 M1 H1 y v V1 R1 ry q => ?_⟩
    split at q
    · rename_i b
      exact ⟨a, b, rfl, repE_int ry, SOut.nxt q (R1.setV i (show RepV X.K G1 H1 (.int (a + b)) (.int (a + b)) by simp only [RepV]))⟩
    · exact q.elim
  · exact h.elim

/-! ### a list so many times -/
@[simp] def opRepN : Op2 := fun x y _ => match x, y with
  | .fr (.lst xs), .v (.int n) => if (decide (n.natAbs < 2 ^ 62) && decide (xs.length * n.toNat ≤ sizeLine)) = true then some (.fr (.lst (List.replicate n.toNat xs).flatten)) else none
  | _, _ => none
theorem RepVs.rep {K : PySem.W.Frag} {G : Gh} {H : Hp} {xs : List PV} {us : List V} (r : RepVs K G H xs us) : ∀ n : Nat, RepVs K G H (List.replicate n xs).flatten (List.replicate n us).flatten
  | 0 => RepVs.nil
  | n + 1 => by
    rw [List.replicate_succ, List.replicate_succ, List.flatten_cons, List.flatten_cons]
    exact r.append (RepVs.rep r n)
theorem opRepN_ok : Op2Ok X rRep opRepN := by
  intro E s G M H H0 x y u v ev Q R d rx ry e q
  simp only [opRepN] at e
  split at e
  · rename_i xs n
    split at e
    · rename_i z
      simp only [Bool.and_eq_true, decide_eq_true_eq] at z
      cases e
      obtain ⟨a, w, rfl, h1, ⟨us, rfl, zz, rr⟩, _⟩ := rx
      have l1 := rr.length
      refine ⟨a, n, us, rfl, repE_int ry, h1, by omega, by omega, by rw [← l1]; exact z.2, fun p hp => ?_⟩
      obtain ⟨V1, R1, r1⟩ := rep_newlst (H0 := H0) R d (rr.rep n.toNat) (by rw [List.length_flatten, List.map_replicate, List.sum_replicate_nat]; rw [l1] at z; rw [Nat.mul_comm]; exact z.2) hp
      exact q _ _ _ V1 R1 r1
    · cases e
  · cases e
theorem fe_rep {a b : Expr} {f g : Sm EV} {pos : Pos} (ha : FE X E W a f) (hb : FE X E W b g) : FE X E W (.BinOp a .Mult b pos) (e2 opRepN f g) := fe_bin op_rep opRepN_ok ha hb

/-! ### divmod -/
@[simp] def opDvm : Op2 := fun x y _ => match x, y with
  | .v (.int i), .v (.int j) => if divOk i j then some (.v (.tup [.int (i / j), .int (i % j)])) else none
  | _, _ => none
end
end HF

end
section
set_option Elab.async false
set_option linter.all false
set_option maxRecDepth 20000
set_option autoImplicit false
/-! HF14: divmod, enumerate; a slot's new thing as a cell; o[i], x = pair. -/
namespace HF
open PySem PySem.Spec PyProof.Rows L2
section
variable {X : Cx} {E : Ent} {W : WX} {N : List Str} {sc : Scope} {fs : Str → Bool} {k : Nat} {Z : Wd}
theorem repVs_ints {K : PySem.W.Frag} {G : Gh} {H : Hp} (ns : List Int) : RepVs K G H (ns.map PV.int) (ns.map V.int) := by
  induction ns with
  | nil => exact RepVs.nil
  | cons n ns ih => exact RepVs.cons (by simp only [RepV]) ih
theorem opDvm_ok : Op2Ok X (fun u v H Q => ∃ i j, [u, v] = [V.int i, V.int j] ∧ CDiv i j ∧ ∀ p, H p = none → Q (.ref p) (upd H p (.tup [.int (i / j), .int (i % j)]))) opDvm := by
  intro E s G M H H0 x y u v ev Q R d rx ry e q
  simp only [opDvm] at e
  split at e
  · rename_i i j
    split at e
    · rename_i z
      cases e
      refine ⟨i, j, by rw [repE_int rx, repE_int ry], by simpa [divOk, CDiv] using z, fun p hp => ?_⟩
      obtain ⟨V1, R1, r1⟩ := rep_newtup R (repVs_ints [i / j, i % j]) (by rw [sizeLine_eq]; simp) hp
      exact q _ _ _ V1 R1 r1
    · cases e
  · cases e
theorem fe_divmod (A : Amb Z X W N sc fs k) {a b : Expr} {f g : Sm EV} {p pos : Pos} (hm : Z.mg ("divmod" : Str) = none) (ha : FE X E W a f) (hb : FE X E W b g) (hg : sc.names.lookup ("divmod" : Str) = some .globalImplicit := by rfl)
    (h1 : starEach [a, b] X.env = (false, eval a X.env) :: starEach [b] X.env := by rfl) (h2 : starEach [b] X.env = (false, eval b X.env) :: starEach [] X.env := by rfl)
    (hpl : (backTo pos (starEach [b] X.env)).any (fun z => z.1) = false := by rfl) : FE X E W (.Call (.Name "divmod" p) [a, b] [] pos) (e2 opDvm f g) :=
  fe_b2 A call_divmod opDvm_ok hm PyProof.Rows.boot_divmod ha hb hg (by decide) (by decide) h1 h2 hpl

/-! ### enumerate -/
def enumP (xs : List PV) : List PV := xs.zipIdx.map fun p => .tup [.int (p.2 : Nat), p.1]
theorem enumP_get (xs : List PV) (i : Nat) : (enumP xs)[i]? = xs[i]?.map fun x => .tup [.int (i : Nat), x] := by
  unfold enumP
  rw [List.getElem?_map, List.getElem?_zipIdx]
  cases xs[i]? <;> simp
theorem enumP_len (xs : List PV) : (enumP xs).length = xs.length := by simp [enumP]
theorem enumP_map {α : Type} (k : α → PV) (ys : List α) : enumP (ys.map k) = ys.zipIdx.map fun p => .tup [.int (p.2 : Nat), k p.1] := by
  unfold enumP
  rw [List.zipIdx_map, List.map_map]
  rfl
@[simp] def srcEn (f : Sm EV) : Sm Src := fun M => (f M).bnd fun e M1 => match e with
  | .v (.lst xs) => .ok (.v .non, enumP xs) M1
  | .v (.rol xs) => .ok (.v .non, enumP xs) M1
  | .fr (.lst xs) => .ok (.v .non, enumP xs) M1
  | _ => .bad
theorem wk_enum {K : PySem.W.Frag} {e : EV} {xs : List PV} {s0 : L2.St} {G0 : Gh} {H0 : Hp} {a : Addr} (hz : xs.length ≤ sizeLine) (v : ∀ G M s H, StRep K E G M s H → Ext G0 H0 G H → ∃ us, SqL K H a us ∧ RepVs K G H xs us) {X : Cx} (hK : X.K = K) : Wk K E (.v .non) (enumP xs) s0 (Ite K a) G0 H0 where
  go := fun i G M s H R x c sa lt => by
    obtain ⟨us, q, r⟩ := v G M s H R x
    rw [enumP_len] at lt
    have lt' : i < us.length := by rw [← r.length]; exact lt
    exact ⟨us, us[i], q, List.getElem?_eq_getElem lt'⟩
  yld := fun i G M s H y H' p R x c sa e1 e2 => by
    subst hK
    obtain ⟨us, q, r⟩ := v G M s H R x
    obtain ⟨T, z, rfl, hT, rfl, h2⟩ := e2
    have h2 := h2 us q
    rw [enumP_get] at e1
    obtain ⟨p', h3, h4⟩ := r.getV h2
    rw [h3] at e1
    cases e1
    obtain ⟨V1, R1, r1⟩ := rep_newtup (X := X) R (ps := [.int (i : Nat), p']) (us := [.int (i : Nat), z]) (RepVs.cons (by simp only [RepV]) (RepVs.cons h4 RepVs.nil)) (by rw [sizeLine_eq]; simp) hT
    exact ⟨_, V1, R1, r1⟩
  stop := fun i G M s H R x c sa le => by
    obtain ⟨us, q, r⟩ := v G M s H R x
    rw [enumP_len] at le
    exact ⟨us, q, by rw [← r.length]; exact le⟩
  sz := by rw [enumP_len]; exact hz
theorem fi_enum (A : Amb Z X W N sc fs k) {elts : List Expr} {kk : Nat} {tpos p pos : Pos} {e : Expr} {f : Sm EV} (hm : X.mg ("enumerate" : Str) = none) (h : FE X E W e f) (hg : sc.names.lookup ("enumerate" : Str) = some .globalImplicit := by rfl) (hs : starEach [e] X.env = [(false, eval e X.env)] := by rfl) : FI X E W (.Tuple elts kk tpos) (.Call (.Name "enumerate" p) [e] [] pos) (srcEn f) := by
  refine ⟨PI.weak (pi_enum (A.gl hg) hm (pa_cons h.pe pa_nil (by rw [hs]; rfl)) hs) ?_⟩
  rintro s H Q ⟨G, M, R, hh⟩
  show tE X E W f s H fun x H1 => ∃ a xs, [x] = [V.ref a] ∧ SqL X.K H1 a xs ∧ Q (Ite X.K a) H1
  refine ⟨G, M, R, ?_⟩
  simp only [srcEn] at hh
  cases hf : f M with
  | exn c M1 => rw [hf] at hh; exact hh
  | bad => rw [hf] at hh; exact hh
  | ok x M1 =>
    rw [hf] at hh
    simp only [Res.bnd] at hh
    intro G1 H1 V1 R1 u rx
    split at hh
    · rename_i xs
      have ru : RepV X.K G1 H1 (.lst xs) u := rx
      simp only [RepV] at ru
      obtain ⟨a, us, rfl, ⟨z, f1, f2⟩, rr⟩ := ru
      exact ⟨a, us, rfl, .inl f2, hh G1 H1 V1 R1 _ (wk_enum (e := .v .non) (X := X) (by rw [rr.length]; exact z) (fun G' M' s' H' R' x => ⟨us, .inl (x.rd a _ f1 trivial f2), RepVs.mono x _ _ rr⟩) rfl)⟩
    · rename_i xs
      have ru : RepV X.K G1 H1 (.rol xs) u := rx
      simp only [RepV] at ru
      obtain ⟨a, us, rfl, fl, rr⟩ := ru
      exact ⟨a, us, rfl, fl.sq, hh G1 H1 V1 R1 _ (wk_enum (e := .v .non) (X := X) (by rw [rr.length]; exact fl.1) (fun G' M' s' H' R' x => ⟨us, (fl.mono x).sq, RepVs.mono x _ _ rr⟩) rfl)⟩
    · rename_i xs
      obtain ⟨a, w, rfl, h2, ⟨us, rfl, z, rr⟩, n, nf, nl, no, ho⟩ := rx
      have x0 := G1.ext_fz H1 a
      exact ⟨a, us, rfl, SqL.of h2, hh (G1.fz a) H1 (V1.frozen (.inl ho)) (R1.frozen h2 n nl no) _ (wk_enum (e := .v .non) (X := X) (by rw [rr.length]; exact z) (fun G' M' s' H' R' x => ⟨us, .inl (x.rd a _ (.inr rfl) trivial (.inl h2)), RepVs.mono (x0.trans x) _ _ rr⟩) rfl)⟩
    · exact hh.elim
theorem srcEn_ns {f : Sm EV} : NoSlot (srcEn f) := by
  refine ⟨fun M a M' h => ?_⟩
  simp only [srcEn] at h
  cases hf : f M with
  | exn c M1 => rw [hf] at h; cases h
  | bad => rw [hf] at h; cases h
  | ok e M1 =>
    rw [hf] at h
    simp only [Res.bnd] at h
    split at h <;> first | (cases h; rfl) | cases h

/-! ### a new thing that more than one name may hold -/
theorem StRep.cellNew {K : PySem.W.Frag} {G : Gh} {M : Mem} {s : L2.St} {H : Hp} (R : StRep K E G M s H) {a : Addr} {w : HO} {o : PO} (h1 : H a = some w) (ro : RepO K G H o w) (hn : E.H a = none) (nf : ¬ G.F a) (nl : a ∉ G.al) (no : ¬ OwnAt M.r s a) :
    StRep K E ⟨G.F, G.al ++ [a]⟩ ⟨M.r, M.h ++ [o]⟩ s H ∧ Ext G H ⟨G.F, G.al ++ [a]⟩ H := by
  have x : Ext G H ⟨G.F, G.al ++ [a]⟩ H := ⟨fun _ h => h, fun _ _ _ _ h => h, fun r b h => by
    show (G.al ++ [a])[r]? = some b
    rw [List.getElem?_append_left (List.getElem?_eq_some_iff.mp h).1]; exact h⟩
  have x' : ∀ {p : PV} {u : V}, RepV K G H p u → RepV K ⟨G.F, G.al ++ [a]⟩ H p u := fun {p u} r => RepV.mono x _ _ r
  refine ⟨⟨⟨R.post.f, R.post.fnew, ?_, R.post.keep, R.post.rd, R.post.dom⟩, ⟨R.hp.fdom, ?_, ?_, fun r b ob e e' => ?_⟩, R.len, fun i q e => ?_, fun i ob e => ?_, R.sep⟩, x⟩
  · obtain ⟨l, e1, e2⟩ := R.post.al
    refine ⟨l ++ [a], by simp [e1], fun b hb => ?_⟩
    rcases List.mem_append.mp hb with hb | hb
    · exact e2 b hb
    · simp at hb; subst hb; exact hn
  · exact List.nodup_append.mpr ⟨R.hp.nd, by simp, fun b hb c hc => by simp at hc; subst hc; exact fun z => nl (z ▸ hb)⟩
  · simp [R.hp.len]
  · have lenE := R.hp.len
    by_cases lt : r < G.al.length
    · have e : (G.al ++ [a])[r]? = some b := e
      rw [List.getElem?_append_left lt] at e
      have e' : (M.h ++ [o])[r]? = some ob := e'
      rw [List.getElem?_append_left (by omega)] at e'
      obtain ⟨f, u, q, rr⟩ := R.hp.obj r b ob e e'
      exact ⟨f, u, q, rr.mono x⟩
    · have e : (G.al ++ [a])[r]? = some b := e
      rw [List.getElem?_append_right (by omega)] at e
      have e' : (M.h ++ [o])[r]? = some ob := e'
      rw [List.getElem?_append_right (by omega)] at e'
      have z : r - G.al.length = 0 := by
        have := (List.getElem?_eq_some_iff.mp e).1
        simp at this; omega
      rw [lenE] at e'
      rw [z] at e e'
      simp at e e'
      subst e e'
      exact ⟨nf, w, h1, ro.mono x⟩
  · obtain ⟨u, k1, k2⟩ := R.slot i q e
    exact ⟨u, k1, x' k2⟩
  · obtain ⟨b, u, k1, k2, k3, k4, k5, k6⟩ := R.own i ob e
    refine ⟨b, u, k1, k2, k3.mono x, k4, k5, fun z => ?_⟩
    rcases List.mem_append.mp z with z | z
    · exact k6 z
    · simp at z; subst z; exact no ⟨i, ob, e, k1⟩
/-- name = a new thing that is handed on by its address -/
@[simp] def sCell (i : Nat) (f : Sm EV) : Ss := fun M => (f M).st fun e M1 => match e with
  | .fr o => .nx ⟨M1.r.set i (some (.v (.ref M1.h.length))), M1.h ++ [o]⟩
  | .v p => .nx ⟨M1.r.set i (some (.v p)), M1.h⟩
  | .sl _ => .bad
theorem fs_cell (A : Amb Z X W N sc fs k) {e : Expr} {f : Sm EV} {pos pos' : Pos} {x : Str} {i : Nat} (hN : N[i]? = some x) (hl : locB sc fs x = true) (he : FE X E W e f) (hs : swapsWith e (some (.Name x pos')) pos.line X.env = pure false := by rfl) : FS X E W (.Assign [.Name x pos'] e pos) (sCell i f) := by
  refine ⟨PS.weak (ps_set (by rw [A.hN]; exact A.nd) (by rw [A.hN]; exact hN) (by rw [A.hs]; exact locB_loc hl) he.pe hs (locB_fn A hl)) ?_⟩
  rintro D s H ⟨G, M, R, h⟩
  refine tE_st R h fun G1 M1 H1 e u V1 R1 re q => ?_
  cases e with
  | v p => exact SOut.nxt q (R1.setV i re)
  | fr o =>
    obtain ⟨a, w, rfl, h1, ro, n, nf, nl, no, _⟩ := re
    obtain ⟨R2, x2⟩ := R1.cellNew h1 ro n nf nl no
    have lenE := R1.hp.len
    exact q _ _ H1 x2 (R2.setV i (show RepV X.K _ H1 (.ref M1.h.length) (.ref a) by
      simp only [RepV]
      exact ⟨a, rfl, by rw [lenE]; simp⟩))
  | sl j => exact False.elim q

/-! ### o[i], x = a pair -/
@[simp] def sPatSub (fv : Sm PV) (fo fi : Sm EV) (j : Nat) : Ss := fun M => (fv M).st fun p M1 => match p with
  | .tup [p1, p2] => (sSub (fun M => .ok p1 M) fo fi M1).sq fun M2 => .nx ⟨M2.r.set j (some (.v p2)), M2.h⟩
  | _ => .bad
theorem st_sq {α : Type} (x : Res α) (f : α → Mem → SR) (g : Ss) : (x.st f).sq g = x.st fun a M => (f a M).sq g := by cases x <;> rfl
theorem fs_patsub (A : Amb Z X W N sc fs k) {o i e : Expr} {fv : Sm PV} {fo fi : Sm EV} {pos p2 p3 tpos : Pos} {kk j : Nat} {x : Str} (he : FP X E W e fv) (ho : FE X E W o fo) (hi : FE X E W i fi) (hN : N[j]? = some x) (hl : locB sc fs x = true)
    (hg : PSet X rSetA → PG X (.Subscript o i p2) (gSub (tE X E W fo) (tE X E W fi) rSetA))
    (hs2 : (assignEach [.Subscript o i p2, .Name x p3] X.env).map (·.2) = assign (.Subscript o i p2) X.env :: (assignEach [.Name x p3] X.env).map (·.2) := by rfl) (hs1 : (assignEach [.Name x p3] X.env).map (·.2) = assign (.Name x p3) X.env :: (assignEach [] X.env).map (·.2) := by rfl)
    (hn : (assignEach [.Subscript o i p2, .Name x p3] X.env).length = 2 := by rfl) (hst : (assignEach [.Subscript o i p2, .Name x p3] X.env).findIdx? (·.1) = none := by rfl)
    (hs : swapsWithSole [.Tuple [.Subscript o i p2, .Name x p3] kk tpos] e pos.line X.env = pure false := by rfl) (hw : swappedStores [.Tuple [.Subscript o i p2, .Name x p3] kk tpos] e X.env = pure none := by rfl)
    (h1 : (assignEach [.Tuple [.Subscript o i p2, .Name x p3] kk tpos] X.env).map (·.2) = [assign (.Tuple [.Subscript o i p2, .Name x p3] kk tpos) X.env] := by rfl) :
    FS X E W (.Assign [.Tuple [.Subscript o i p2, .Name x p3] kk tpos] e pos) (sPatSub fv fo fi j) := by
  have pgn : PG X (.Name x p3) (gName j) := pg_name (by rw [A.hN]; exact A.nd) (by rw [A.hN]; exact hN) (by rw [A.hs]; exact locB_loc hl) (locB_fn A hl)
  refine ⟨PS.weak (ps_asg he.pe (pg_tup A.calm (pgs_cons (hg (set_any A.u1)) (pgs_cons pgn pgs_nil hs1) hs2) hn hst) hs hw h1) ?_⟩
  rintro D s H ⟨G, M, R, h⟩
  refine tP_st R h fun G1 M1 H1 p u V1 R1 rp q => ?_
  split at q
  · rename_i p1 p2
    obtain ⟨a, us, rfl, ht, rs, z⟩ := tup_of rp
    obtain ⟨u1, ws, rfl, r1, rs⟩ := RepVs.cons_iff.mp rs
    obtain ⟨u2, ws, rfl, r2, rs⟩ := RepVs.cons_iff.mp rs
    have ew := RepVs.nil_iff.mp rs
    subst ew
    refine ⟨a, [u1, u2], rfl, ht, rfl, u1, [u2], rfl, ?_⟩
    unfold sSub at q
    change SOut X E W D G1 H1 (((fo M1).st _).sq _) at q
    rw [st_sq] at q
    refine tE_st R1 q fun G2 M2 H2 x v V2 R2 rx q2 => ?_
    rw [st_sq] at q2
    refine tE_st R2 q2 fun G3 M3 H3 y w V3 R3 ry q3 => ?_
    have rp3 := RepV.mono (V2.trans V3).ext _ _ r1
    have rq3 := RepV.mono (V2.trans V3).ext _ _ r2
    split at q3
    · rename_i xs em
      obtain ⟨a, t, rfl, h3, ⟨us, rfl, z, rr⟩, nf, wr⟩ := mut_ok R3 (rx.evo V3) em
      split at q3
      · rename_i j
        split at q3
        · rename_i n en
          rw [rr.length] at en
          obtain ⟨R4, V4⟩ := wr (.lst (xs.set n p1)) (.lst (us.set n u1)) ⟨_, rfl, by simpa using z, rr.set n rp3⟩
          exact .inl ⟨a, us, _, n, rfl, repE_int ry, h3, en, u2, [], rfl, rfl, q3 G3 _ _ V4.ext (R4.setV _ (RepV.mono V4.ext _ _ rq3))⟩
        · exact q3.elim
      · exact q3.elim
    · rename_i ks xs em
      obtain ⟨a, t, rfl, h3, ⟨kvs, rfl, z, hk, rr⟩, nf, wr⟩ := mut_ok R3 (rx.evo V3) em
      split at q3
      · rename_i q eq
        split at q3
        · rename_i lt
          subst hk
          have lt' : kvs.length < sizeLine := by simpa using lt
          obtain ⟨R4, V4⟩ := wr _ _ (dStore_rep rp3 rr lt' (k := q))
          refine .inr ⟨a, _, rfl, ?_, u2, [], rfl, rfl, q3 G3 _ _ V4.ext (R4.setV _ (RepV.mono V4.ext _ _ rq3))⟩
          rw [key_rep ry eq]
          exact DPut.k h3 lt'
        · exact q3.elim
      · exact q3.elim
    · exact q3.elim
  · exact q.elim
end
end HF

end
section
set_option Elab.async false
set_option linter.all false
set_option maxRecDepth 20000
set_option autoImplicit false
/-! HF15: len(set(whole numbers)). -/
namespace HF
open PySem PySem.Spec PyProof.Rows L2
/-- the unlike ones, as first met -/
def unlike (ns : List Int) : List Int := ns.foldl step_dedup []
theorem unlike_met (ns : List Int) : firstMet (fun i => ns.getD i 0) ns.length = unlike ns := by
  unfold firstMet unlike
  congr 1
  apply List.ext_getElem?
  intro i
  rw [List.getElem?_map]
  by_cases h : i < ns.length
  · rw [List.getElem?_range h, Option.map_some, List.getElem?_eq_getElem h, List.getD_eq_getElem?_getD, List.getElem?_eq_getElem h]; rfl
  · rw [List.getElem?_eq_none (by simp; omega), List.getElem?_eq_none (by omega)]; rfl
section
variable {X : Cx} {E : Ent} {W : WX} {N : List Str} {sc : Scope} {fs : Str → Bool} {k : Nat} {Z : Wd}
def tLenSet (K : PySem.W.Frag) (ta : TE) : TE := fun σ H Q => ta σ H fun x H1 => ∃ (l : Addr) (ns : List Int), x = .ref l ∧ SqL K H1 l (ns.map V.int) ∧ ns.length ≤ 4000 ∧ Q (.int ((unlike ns).length : Nat)) H1
theorem pe_lenSet {a : Expr} {ta : TE} {p p2 q pos : Pos} (hg : Gl X "len") (hm : X.mg "len" = none) (hg2 : Gl X "set") (hm2 : X.mg "set" = none) (ha : PE X a ta) (hc : X.calm = true)
    (na : starEach [a] X.env = (false, eval a X.env) :: starEach [] X.env) : PE X (.Call (.Name "len" p) [.Call (.Name "set" p2) [a] [] q] [] pos) (tLenSet X.K ta) := by
  refine ⟨fun pins s σ H Q I h => Call_ (ld_blt I hg hm PySem.boot_len (PyProof.Rows.callWith_builtin1 (PyProof.Rows.args_cons ?_ rfl) rfl rfl))⟩
  refine Call_ (ld_blt I hg2 hm2 PyProof.Rows.boot_set (PyProof.Rows.callWith_type1 (PyProof.Rows.args_cons ?_ na) na rfl))
  refine thn (ha.run pins s σ H _ I h) fun v s1 ⟨x, H1, I1, r1, l, ns, ex, hq, hl, q1⟩ => PyProof.Rows.args_nil ?_
  subst ex
  cases r1
  obtain ⟨its, r, pl, hz⟩ := I1.list hq
  have sz : its.toArray.size = ns.length := by rw [List.size_toArray, ← r.length, List.length_map]
  refine call_set_list (I1.ok.hd hc) pl.isList (by simpa using RZ.intsAre_vals r) (by rw [sz]; unfold scanBound; omega) fun h' tk hS hk => PyProof.Rows.args_nil ?_
  rw [sz, unlike_met ns] at hS
  obtain ⟨o, es, ep, t, ho, hex, hd, _, _, _, hf, hn⟩ := hS
  have le : (unlike ns).length ≤ ns.length := by rw [← unlike_met ns]; exact firstMet_length_le _ _
  have J : Inv X pins σ H1 { s1 with heap := h', toks := tk } := I1.kept fun b o e => hk b o (Heap.lt_size e) e
  exact call_len_set ho hex hd hf (by rw [hn] <;> omega) ⟨.int ((unlike ns).length : Nat), H1, J.tok _, ⟨_, by rw [hn]⟩, q1⟩
@[simp] def opLenSet : Op1 := fun x M => match (asLst M x).bind asInts with
  | some ns => if ns.length ≤ 4000 then some (.v (.int ((unlike ns).length : Nat))) else none
  | none => none
theorem fe_lenSet (A : Amb Z X W N sc fs k) {a : Expr} {f : Sm EV} {p p2 q pos : Pos} (hm : Z.mg ("len" : Str) = none) (hm2 : Z.mg ("set" : Str) = none) (ha : FE X E W a f) (hg : sc.names.lookup ("len" : Str) = some .globalImplicit := by rfl) (hg2 : sc.names.lookup ("set" : Str) = some .globalImplicit := by rfl)
    (na : starEach [a] X.env = (false, eval a X.env) :: starEach [] X.env := by rfl) : FE X E W (.Call (.Name "len" p) [.Call (.Name "set" p2) [a] [] q] [] pos) (e1 opLenSet f) := by
  refine ⟨PE.weak (pe_lenSet (A.gl hg) (A.no hm) (A.gl hg2) (A.no hm2) ha.pe A.calm na) ?_⟩
  rintro s H Q ⟨G, M, R, h⟩
  refine tE_one R h fun G1 M1 H1 x u V1 R1 rx h1 => ?_
  simp only [opLenSet] at h1
  cases e1 : asLst M1 x with
  | none => rw [e1] at h1; exact h1.elim
  | some xs =>
    rw [e1] at h1
    simp only [Option.bind_some] at h1
    cases e2 : asInts xs with
    | none => rw [e2] at h1; exact h1.elim
    | some ns =>
      rw [e2] at h1
      simp only at h1
      split at h1
      · rename_i z
        obtain ⟨a, us, rfl, ha, ra, za⟩ := lst_of R1 rx e1
        have eu := asInts_rep e2 ra
        subst eu
        exact ⟨a, ns, rfl, ha, z, OutP.now h1 R1 _ (show RepV X.K G1 H1 (.int _) _ by simp only [RepV])⟩
      · exact h1.elim
end
end HF

end
section
set_option Elab.async false
set_option linter.all false
set_option maxRecDepth 20000
set_option autoImplicit false
/-! HM: plain lemmas on loops and comprehensions; terms. -/
namespace HF
open PySem PySem.Spec PyProof.Rows L2

/-! ### loops -/
section
variable {e : EV} {all : List PV} {pt : Pat} {vs ws : List Nat} {t : Sm Bool} {f : Sm PV} {b : Ss} {c : Sm Bool}
theorem lcL_nil (acc : List PV) (M : Mem) (h : Chk e all M) : lcL e all pt vs t f [] acc M = some (acc, M) := by
  unfold lcL; rw [if_pos h]
theorem lcL_fm {α : Type} (M : Mem) (h : Chk e all M) (k : α → PV) (g : α → Option PV) : ∀ (ys : List α) (acc : List PV), (∀ y ∈ ys, lcStep pt vs t f (k y) M = some (g y, M)) → lcL e all pt vs t f (ys.map k) acc M = some (acc ++ ys.filterMap g, M)
  | [], acc, _ => by rw [List.map_nil, lcL_nil _ _ h]; simp
  | y :: ys, acc, H => by
    have h1 := H y List.mem_cons_self
    have h2 := fun acc => lcL_fm M h k g ys acc fun z hz => H z (List.mem_cons_of_mem _ hz)
    simp only [List.map_cons]
    unfold lcL
    rw [if_pos h, h1]
    cases e : g y with
    | none => simp only [h2, List.filterMap_cons, e]
    | some p => simp only [h2, List.filterMap_cons, e, List.append_assoc, List.singleton_append]
theorem lcL_map {α : Type} (M : Mem) (h : Chk e all M) (k g : α → PV) (ys : List α) (acc : List PV) (H : ∀ y ∈ ys, lcStep pt vs t f (k y) M = some (some (g y), M)) : lcL e all pt vs t f (ys.map k) acc M = some (acc ++ ys.map g, M) := by
  rw [lcL_fm M h k (fun y => some (g y)) ys acc H]
  simp
theorem lcL_inv {α : Type} (k : α → PV) (I : List α → List PV → Mem → Prop)
    (step : ∀ y ys acc M, I (y :: ys) acc M → Chk e all M ∧ ((∃ p M', lcStep pt vs t f (k y) M = some (some p, M') ∧ I ys (acc ++ [p]) M') ∨ ∃ M', lcStep pt vs t f (k y) M = some (none, M') ∧ I ys acc M'))
    (fin : ∀ acc M, I [] acc M → Chk e all M) : ∀ (ys : List α) (acc : List PV) (M : Mem), I ys acc M → ∃ acc' M', lcL e all pt vs t f (ys.map k) acc M = some (acc', M') ∧ I [] acc' M'
  | [], acc, M, h => ⟨acc, M, by rw [List.map_nil, lcL_nil _ _ (fin acc M h)], h⟩
  | y :: ys, acc, M, h => by
    obtain ⟨h1, h2⟩ := step y ys acc M h
    simp only [List.map_cons]
    unfold lcL
    rw [if_pos h1]
    rcases h2 with ⟨p, M', e1, h3⟩ | ⟨M', e1, h3⟩
    · rw [e1]; exact lcL_inv k I step fin ys _ M' h3
    · rw [e1]; exact lcL_inv k I step fin ys _ M' h3
theorem forL_inv {α : Type} (k : α → PV) (I : List α → Mem → Prop) (Q : SR → Prop)
    (step : ∀ y ys M, I (y :: ys) M → Chk e all M ∧ ((∃ M', forTurn pt b ws (k y) M = .go M' ∧ I ys M') ∨ ∃ z, forTurn pt b ws (k y) M = .out z ∧ Q z))
    (fin : ∀ M, I [] M → Chk e all M ∧ Q (.nx M)) : ∀ (ys : List α) (M : Mem), I ys M → Q (forL e all pt b ws (ys.map k) M)
  | [], M, h => by
    obtain ⟨h1, h2⟩ := fin M h
    simp only [List.map_nil]; unfold forL; rw [if_pos h1]; exact h2
  | y :: ys, M, h => by
    obtain ⟨h1, h2⟩ := step y ys M h
    simp only [List.map_cons]
    unfold forL
    rw [if_pos h1]
    rcases h2 with ⟨M', e1, h3⟩ | ⟨z, e1, h3⟩
    · rw [e1]; exact forL_inv k I Q step fin ys M' h3
    · rw [e1]; exact h3
/-- a loop that always goes on: its state is a function of what it has seen -/
theorem forL_fold {α σ : Type} (St : σ → Mem) (k : α → PV) (step : σ → α → σ) (h : ∀ s, Chk e all (St s)) : ∀ (ys : List α) (s : σ), (∀ y ∈ ys, ∀ s, forTurn pt b ws (k y) (St s) = .go (St (step s y))) → forL e all pt b ws (ys.map k) (St s) = .nx (St (ys.foldl step s))
  | [], s, _ => by simp only [List.map_nil]; unfold forL; rw [if_pos (h s)]; rfl
  | y :: ys, s, H => by
    have h2 := forL_fold St k step h ys (step s y) fun z hz => H z (List.mem_cons_of_mem _ hz)
    simp only [List.map_cons]
    unfold forL
    rw [if_pos (h s), H y List.mem_cons_self s]
    exact h2
theorem lcL_map0 {α : Type} (M : Mem) (k g : α → PV) (ys : List α) (acc : List PV) (H : ∀ y ∈ ys, lcStep pt vs t f (k y) M = some (some (g y), M)) : lcL (.v .non) all pt vs t f (ys.map k) acc M = some (acc ++ ys.map g, M) := lcL_map (e := .v .non) (all := all) M trivial k g ys acc H
theorem lcL_fm0 {α : Type} (M : Mem) (k : α → PV) (g : α → Option PV) (ys : List α) (acc : List PV) (H : ∀ y ∈ ys, lcStep pt vs t f (k y) M = some (g y, M)) : lcL (.v .non) all pt vs t f (ys.map k) acc M = some (acc ++ ys.filterMap g, M) := lcL_fm (e := .v .non) (all := all) M trivial k g ys acc H
theorem forL_fold0 {α σ : Type} (St : σ → Mem) (k : α → PV) (step : σ → α → σ) (ys : List α) (s : σ) (H : ∀ y ∈ ys, ∀ s, forTurn pt b ws (k y) (St s) = .go (St (step s y))) : forL (.v .non) all pt b ws (ys.map k) (St s) = .nx (St (ys.foldl step s)) := forL_fold (e := .v .non) (all := all) St k step (fun _ => trivial) ys s H
theorem whileL_inv (I : Nat → Mem → Prop) (Q : SR → Prop)
    (step : ∀ n M, I n M → (∃ M1, c M = .ok false M1 ∧ Q (.nx M1)) ∨ ∃ M1, c M = .ok true M1 ∧ ((∃ M2 n', (b M1 = .nx M2 ∨ b M1 = .cnt M2) ∧ n' < n ∧ I n' (forget ws M2)) ∨ (∃ M2, b M1 = .brk M2 ∧ Q (.nx (forget ws M2))) ∨ (∃ e M2, b M1 = .ret e M2 ∧ Q (.ret e M2)))) :
    ∀ (n : Nat) (M : Mem) (fuel : Nat), n < fuel → I n M → Q (whileL c b ws fuel M) := by
  intro n M fuel
  induction fuel generalizing n M with
  | zero => intro h; omega
  | succ m ih =>
    intro lt h
    unfold whileL
    rcases step n M h with ⟨M1, e1, q⟩ | ⟨M1, e1, q⟩
    · rw [e1]; simpa using q
    · rw [e1]
      rcases q with ⟨M2, n', e2, l2, q⟩ | ⟨M2, e2, q⟩ | ⟨e3, M2, e2, q⟩
      · rcases e2 with e2 | e2 <;> simp only [Res.st, if_true, e2] <;> exact ih n' _ (by omega) q
      · simpa only [Res.st, if_true, e2] using q
      · simpa only [Res.st, if_true, e2] using q
end

/-! ### terms -/
inductive Tm where
  | name (k : Nat)
  | sign (w : Str) (ps : List (Nat × Tm))
  | hole (w : Str) (ts : List Tm)
theorem Tm.lt_sign {w : Str} {ps : List (Nat × Tm)} {p : Nat × Tm} (h : p ∈ ps) : sizeOf p.2 < sizeOf (Tm.sign w ps) := by
  have := List.sizeOf_lt_of_mem h
  obtain ⟨a, b⟩ := p
  simp at this ⊢
  omega
theorem Tm.lt_hole {w : Str} {ts : List Tm} {p : Tm} (h : p ∈ ts) : sizeOf p < sizeOf (Tm.hole w ts) := by
  have := List.sizeOf_lt_of_mem h
  simp at this ⊢
  omega
section
variable {α : Type} (fn : Nat → α) (fs : Str → List (Nat × α) → α) (fh : Str → List α → α)
def Tm.fold : Tm → α
  | .name k => fn k
  | .sign w ps => fs w (ps.attach.map fun p => (p.1.1, Tm.fold p.1.2))
  | .hole w ts => fh w (ts.attach.map fun p => Tm.fold p.1)
termination_by t => sizeOf t
decreasing_by
  · exact Tm.lt_sign p.2
  · exact Tm.lt_hole p.2
theorem Tm.fold_name (k : Nat) : Tm.fold fn fs fh (.name k) = fn k := by rw [Tm.fold]
theorem Tm.fold_sign (w : Str) (ps : List (Nat × Tm)) : Tm.fold fn fs fh (.sign w ps) = fs w (ps.map fun p => (p.1, Tm.fold fn fs fh p.2)) := by
  rw [Tm.fold]; congr 1; exact List.attach_map_val (l := ps) (f := fun p => (p.1, Tm.fold fn fs fh p.2))
theorem Tm.fold_hole (w : Str) (ts : List Tm) : Tm.fold fn fs fh (.hole w ts) = fh w (ts.map fun p => Tm.fold fn fs fh p) := by
  rw [Tm.fold]; congr 1; exact List.attach_map_val (l := ts) (f := fun p => Tm.fold fn fs fh p)
end
theorem Tm.ind {P : Tm → Prop} (hn : ∀ k, P (.name k)) (hs : ∀ w ps, (∀ p ∈ ps, P p.2) → P (.sign w ps)) (hh : ∀ w ts, (∀ t ∈ ts, P t) → P (.hole w ts)) (t : Tm) : P t :=
  match t with
  | .name k => hn k
  | .sign w ps => hs w ps fun p hp => Tm.ind hn hs hh p.2
  | .hole w ts => hh w ts fun p hp => Tm.ind hn hs hh p
termination_by sizeOf t
decreasing_by
  · exact Tm.lt_sign hp
  · exact Tm.lt_hole hp
/-- how a term is told -/
def Tm.enc : Tm → PV := Tm.fold (fun k => .tup [.str "name", .int k]) (fun w ps => .tup [.str "sign", .str w, .tup (ps.map fun p => .tup [.int p.1, p.2])]) (fun w ts => .tup [.str "hole", .str w, .tup ts])
def encP (p : Nat × Tm) : PV := .tup [.int p.1, p.2.enc]
theorem Tm.enc_name (k : Nat) : (Tm.name k).enc = .tup [.str "name", .int k] := Tm.fold_name ..
theorem Tm.enc_sign (w : Str) (ps : List (Nat × Tm)) : (Tm.sign w ps).enc = .tup [.str "sign", .str w, .tup (ps.map encP)] := by
  unfold Tm.enc; rw [Tm.fold_sign, List.map_map]; rfl
theorem Tm.enc_hole (w : Str) (ts : List Tm) : (Tm.hole w ts).enc = .tup [.str "hole", .str w, .tup (ts.map Tm.enc)] := by
  unfold Tm.enc; rw [Tm.fold_hole]
/-- its parts -/
def Tm.inner : Tm → List (Nat × Tm)
  | .name _ => []
  | .sign _ ps => ps
  | .hole _ ts => ts.map fun t => (0, t)
theorem Tm.ind' {P : Tm → Prop} (h : ∀ t : Tm, (∀ p ∈ t.inner, P p.2) → P t) (t : Tm) : P t :=
  Tm.ind (fun k => h _ fun p hp => by simp [Tm.inner] at hp) (fun w ps ih => h _ fun p hp => ih p hp) (fun w ts ih => h _ fun p hp => by
    simp only [Tm.inner, List.mem_map] at hp
    obtain ⟨t, ht, rfl⟩ := hp
    exact ih t ht) t
def Tm.size : Tm → Nat := Tm.fold (fun _ => 1) (fun _ ps => 1 + (ps.map (·.2)).sum) (fun _ ts => 1 + ts.sum)
theorem Tm.size_eq (t : Tm) : t.size = 1 + (t.inner.map fun p => p.2.size).sum := by
  cases t with
  | name k => simp [Tm.size, Tm.fold_name, Tm.inner]
  | sign w ps => simp [Tm.size, Tm.fold_sign, Tm.inner, Function.comp_def]
  | hole w ts => simp [Tm.size, Tm.fold_hole, Tm.inner, Function.comp_def]
def nmax : List Nat → Nat
  | [] => 0
  | n :: ns => max n (nmax ns)
theorem le_nmax {n : Nat} : ∀ {ns : List Nat}, n ∈ ns → n ≤ nmax ns
  | m :: ns, h => by
    unfold nmax
    rcases List.mem_cons.mp h with rfl | h
    · omega
    · have := le_nmax h; omega
theorem nmax_le {n : Nat} : ∀ {ns : List Nat}, (∀ m ∈ ns, m ≤ n) → nmax ns ≤ n
  | [], _ => Nat.zero_le _
  | m :: ns, h => by
    unfold nmax
    have h1 := h m List.mem_cons_self
    have h2 := nmax_le (ns := ns) fun k hk => h k (List.mem_cons_of_mem _ hk)
    omega
/-- how many levels it has: a leaf has one -/
def Tm.depth : Tm → Nat := Tm.fold (fun _ => 1) (fun _ ps => 1 + nmax (ps.map (·.2))) (fun _ ts => 1 + nmax ts)
theorem Tm.depth_eq (t : Tm) : t.depth = 1 + nmax (t.inner.map fun p => p.2.depth) := by
  cases t with
  | name k => simp [Tm.depth, Tm.fold_name, Tm.inner, nmax]
  | sign w ps => simp [Tm.depth, Tm.fold_sign, Tm.inner, Function.comp_def]
  | hole w ts => simp [Tm.depth, Tm.fold_hole, Tm.inner, Function.comp_def]
theorem Tm.depth_lt {t : Tm} {p : Nat × Tm} (h : p ∈ t.inner) : p.2.depth < t.depth := by
  rw [Tm.depth_eq t]
  have := le_nmax (List.mem_map_of_mem (f := fun p : Nat × Tm => p.2.depth) h)
  omega
theorem le_nsum {n : Nat} : ∀ {ns : List Nat}, n ∈ ns → n ≤ ns.sum
  | m :: ns, h => by
    rw [List.sum_cons]
    rcases List.mem_cons.mp h with rfl | h
    · omega
    · have := le_nsum h; omega
theorem Tm.size_lt {t : Tm} {p : Nat × Tm} (h : p ∈ t.inner) : p.2.size < t.size := by
  rw [Tm.size_eq t]
  have := le_nsum (List.mem_map_of_mem (f := fun p : Nat × Tm => p.2.size) h)
  omega
theorem Tm.size_pos (t : Tm) : 0 < t.size := by rw [Tm.size_eq]; omega
theorem Tm.inner_len {t : Tm} : t.inner.length < t.size := by
  rw [Tm.size_eq]
  have : ∀ l : List (Nat × Tm), l.length ≤ (l.map fun p => p.2.size).sum := by
    intro l
    induction l with
    | nil => simp
    | cons p l ih => have := p.2.size_pos; simp only [List.map_cons, List.sum_cons, List.length_cons]; omega
  have := this t.inner
  omega
theorem atI_nat {α : Type} (xs : List α) (j : Nat) : atI xs (j : Int) = xs[j]? := by
  unfold atI ixN
  rw [if_pos (Int.natCast_nonneg j)]
  by_cases h : (j : Int) < xs.length
  · rw [if_pos h]; simp
  · rw [if_neg h]
    have : xs.length ≤ j := by omega
    simp [this]
theorem atI_ofNat {α : Type} (xs : List α) (n : Nat) : atI xs (@OfNat.ofNat Int n _) = xs[n]? := atI_nat xs n
theorem atI_0 {α : Type} (xs : List α) : atI xs 0 = xs[0]? := atI_nat xs 0
theorem atI_1 {α : Type} (xs : List α) : atI xs 1 = xs[1]? := atI_nat xs 1
theorem atI_2 {α : Type} (xs : List α) : atI xs 2 = xs[2]? := atI_nat xs 2
theorem atI_3 {α : Type} (xs : List α) : atI xs 3 = xs[3]? := atI_nat xs 3
theorem str_ns : (Str.ofString "name" = Str.ofString "sign") = False := by simp; decide +kernel
theorem str_nh : (Str.ofString "name" = Str.ofString "hole") = False := by simp; decide +kernel
theorem str_sn : (Str.ofString "sign" = Str.ofString "name") = False := by simp; decide +kernel
theorem str_sh : (Str.ofString "sign" = Str.ofString "hole") = False := by simp; decide +kernel
theorem str_hn : (Str.ofString "hole" = Str.ofString "name") = False := by simp; decide +kernel
theorem str_hs : (Str.ofString "hole" = Str.ofString "sign") = False := by simp; decide +kernel
theorem sizeLine_val : sizeLine = 16777216 := by decide
/-! ### terms as data -/
theorem asInts_fun {α : Type} (g : α → Int) : ∀ ys : List α, asInts (ys.map fun y => .int (g y)) = some (ys.map g)
  | [] => rfl
  | y :: ys => by simp [asInts_fun g ys]
theorem asInts_snoc (xs : List PV) (ns : List Int) (n : Int) (h : asInts xs = some ns) : asInts (xs ++ [.int n]) = some (ns ++ [n]) := by
  induction xs generalizing ns with
  | nil => cases h; rfl
  | cons x xs ih =>
    cases x <;> simp only [asInts] at h <;> try cases h
    rename_i i
    cases e : asInts xs with
    | none => simp [e] at h
    | some ms =>
      simp [e] at h
      subst h
      simp [ih ms e]
theorem toDs_map {α : Type} (k : α → PV) (d : α → PyData) : ∀ ys : List α, (∀ y ∈ ys, (k y).toD = some (d y)) → toDs (ys.map k) = some (ys.map d)
  | [], _ => by simp [toDs]
  | y :: ys, h => by simp [toDs, h y List.mem_cons_self, toDs_map k d ys fun z hz => h z (List.mem_cons_of_mem _ hz)]
theorem canLayAll0_all : ∀ ds : List PyData, PyData.canLayAll0 ds = ds.all PyData.canLay0
  | [] => rfl
  | d :: ds => by simp [PyData.canLayAll0, canLayAll0_all ds]
theorem depthAll_nmax : ∀ ds : List PyData, PyData.depthAll ds = nmax (ds.map PyData.depth)
  | [] => rfl
  | d :: ds => by simp [PyData.depthAll, nmax, depthAll_nmax ds]
theorem shaped_list {ds : List PyData} (h : ∀ d ∈ ds, d.canLay0 = true ∧ d.depth ≤ 63) : SeqAt.shaped (.list ds) = true := by
  unfold SeqAt.shaped
  simp only [PyData.canLay0, PyData.depth, canLayAll0_all, depthAll_nmax, Bool.and_eq_true, List.all_eq_true, decide_eq_true_eq]
  refine ⟨fun d hd => (h d hd).1, ?_⟩
  have : nmax (ds.map PyData.depth) ≤ 63 := nmax_le fun m hm => by
    obtain ⟨d, hd, rfl⟩ := List.mem_map.mp hm
    exact (h d hd).2
  omega
theorem eqv_nil (ds : List PyData) : PyData.eqv (.list ds) (.list []) = ds.isEmpty := by
  cases ds <;> simp [PyData.eqv, PyData.eqvAll]
def Tm.dat : Tm → PyData := Tm.fold (fun k => .tuple [.str "name", .int k]) (fun w ps => .tuple [.str "sign", .str w, .tuple (ps.map fun p => .tuple [.int p.1, p.2])]) (fun w ts => .tuple [.str "hole", .str w, .tuple ts])
def datP (p : Nat × Tm) : PyData := .tuple [.int p.1, p.2.dat]
theorem Tm.dat_name (k : Nat) : (Tm.name k).dat = .tuple [.str "name", .int k] := Tm.fold_name ..
theorem Tm.dat_sign (w : Str) (ps : List (Nat × Tm)) : (Tm.sign w ps).dat = .tuple [.str "sign", .str w, .tuple (ps.map datP)] := by
  unfold Tm.dat; rw [Tm.fold_sign, List.map_map]; rfl
theorem Tm.dat_hole (w : Str) (ts : List Tm) : (Tm.hole w ts).dat = .tuple [.str "hole", .str w, .tuple (ts.map Tm.dat)] := by
  unfold Tm.dat; rw [Tm.fold_hole]
theorem Tm.enc_toD (t : Tm) : t.enc.toD = some t.dat := by
  induction t using Tm.ind with
  | hn k => simp [Tm.enc_name, Tm.dat_name, PV.toD, toDs]
  | hs w ps ih => 
    have := toDs_map encP datP ps fun p hp => by simp [encP, datP, PV.toD, toDs, ih p hp]
    simp [Tm.enc_sign, Tm.dat_sign, PV.toD, toDs, this]
  | hh w ts ih => 
    have := toDs_map Tm.enc Tm.dat ts fun p hp => ih p hp
    simp [Tm.enc_hole, Tm.dat_hole, PV.toD, toDs, this]
/-- all words of a term -/
def Tm.words : Tm → List Str := Tm.fold (fun _ => []) (fun w ps => w :: (ps.map (·.2)).flatten) (fun w ts => w :: ts.flatten)
theorem Tm.words_name (k : Nat) : (Tm.name k).words = [] := Tm.fold_name ..
theorem Tm.words_sign (w : Str) (ps : List (Nat × Tm)) : (Tm.sign w ps).words = w :: (ps.map fun p => p.2.words).flatten := by
  unfold Tm.words; rw [Tm.fold_sign, List.map_map]; rfl
theorem Tm.words_hole (w : Str) (ts : List Tm) : (Tm.hole w ts).words = w :: (ts.map Tm.words).flatten := by
  unfold Tm.words; rw [Tm.fold_hole]
/-- its words can be compared -/
def Tm.Lay (t : Tm) : Prop := ∀ w ∈ t.words, PyData.strOk w = true
theorem Tm.Lay.inner {t : Tm} (h : t.Lay) {p : Nat × Tm} (hp : p ∈ t.inner) : p.2.Lay := by
  intro w hw
  cases t with
  | name k => simp [Tm.inner] at hp
  | sign v ps => refine h w ?_; rw [Tm.words_sign]; exact List.mem_cons_of_mem _ (List.mem_flatten.mpr ⟨_, List.mem_map_of_mem hp, hw⟩)
  | hole v ts => 
    simp only [Tm.inner, List.mem_map] at hp
    obtain ⟨t, ht, rfl⟩ := hp
    refine h w ?_; rw [Tm.words_hole]; exact List.mem_cons_of_mem _ (List.mem_flatten.mpr ⟨_, List.mem_map_of_mem ht, hw⟩)
theorem nmax_map_le {α : Type} {f g : α → Nat} : ∀ {ys : List α}, (∀ y ∈ ys, f y ≤ g y) → nmax (ys.map f) ≤ nmax (ys.map g)
  | [], _ => Nat.le_refl _
  | y :: ys, h => by
    have h1 := h y List.mem_cons_self
    have h2 := nmax_map_le (f := f) (g := g) (ys := ys) fun z hz => h z (List.mem_cons_of_mem _ hz)
    simp only [List.map_cons, nmax]
    omega
theorem strOk_name : PyData.strOk (Str.ofString "name") = true := by decide +kernel
theorem strOk_sign : PyData.strOk (Str.ofString "sign") = true := by decide +kernel
theorem strOk_hole : PyData.strOk (Str.ofString "hole") = true := by decide +kernel
theorem Tm.dat_lay (t : Tm) (h : t.Lay) : t.dat.canLay0 = true := by
  induction t using Tm.ind with
  | hn k => simp [Tm.dat_name, PyData.canLay0, PyData.canLayAll0, strOk_name]
  | hs w ps ih => 
    have h1 : PyData.strOk w = true := h w (by rw [Tm.words_sign]; exact List.mem_cons_self)
    simp only [Tm.dat_sign, PyData.canLay0, PyData.canLayAll0, strOk_sign, h1, canLayAll0_all, Bool.and_true, Bool.true_and, List.all_eq_true]
    intro d hd
    obtain ⟨p, hp, rfl⟩ := List.mem_map.mp hd
    simp [datP, PyData.canLay0, PyData.canLayAll0, ih p hp (h.inner (t := .sign w ps) hp)]
  | hh w ts ih => 
    have h1 : PyData.strOk w = true := h w (by rw [Tm.words_hole]; exact List.mem_cons_self)
    simp only [Tm.dat_hole, PyData.canLay0, PyData.canLayAll0, strOk_hole, h1, canLayAll0_all, Bool.and_true, Bool.true_and, List.all_eq_true]
    intro d hd
    obtain ⟨p, hp, rfl⟩ := List.mem_map.mp hd
    exact ih p hp (h.inner (t := .hole w ts) (p := (0, p)) (by simp [Tm.inner, hp]))
theorem Tm.dat_depth (t : Tm) : t.dat.depth ≤ 3 * t.depth := by
  induction t using Tm.ind with
  | hn k => simp [Tm.dat_name, PyData.depth, PyData.depthAll, Tm.depth, Tm.fold_name]
  | hs w ps ih => 
    rw [Tm.depth_eq]
    simp only [Tm.dat_sign, PyData.depth, PyData.depthAll, depthAll_nmax, Tm.inner, List.map_map]
    have : nmax (ps.map (PyData.depth ∘ datP)) ≤ 1 + 3 * nmax (ps.map fun p => p.2.depth) := nmax_le fun m hm => by
      obtain ⟨p, hp, rfl⟩ := List.mem_map.mp hm
      have h1 := ih p hp
      have h2 := le_nmax (List.mem_map_of_mem (f := fun p : Nat × Tm => p.2.depth) hp)
      simp only [Function.comp, datP, PyData.depth, PyData.depthAll]
      omega
    omega
  | hh w ts ih => 
    rw [Tm.depth_eq]
    simp only [Tm.dat_hole, PyData.depth, PyData.depthAll, depthAll_nmax, Tm.inner, List.map_map]
    have : nmax (ts.map (PyData.depth ∘ Tm.dat)) ≤ 3 * nmax (ts.map ((fun p : Nat × Tm => p.2.depth) ∘ fun t => (0, t))) := nmax_le fun m hm => by
      obtain ⟨p, hp, rfl⟩ := List.mem_map.mp hm
      have h1 := ih p hp
      have h2 := le_nmax (List.mem_map_of_mem (f := ((fun p : Nat × Tm => p.2.depth) ∘ fun t => (0, t))) hp)
      simp only [Function.comp] at h2 ⊢
      omega
    omega
theorem Tm.dat_ok {t : Tm} (h : t.Lay) (hd : t.depth ≤ 20) : t.dat.canLay0 = true ∧ t.dat.depth ≤ 60 := ⟨t.dat_lay h, by have := t.dat_depth; omega⟩
theorem toDs_ints (ns : List Int) : toDs (ns.map .int) = some (ns.map .int) := toDs_map _ _ ns fun _ _ => by simp [PV.toD]
theorem shaped_ints (ns : List Int) : SeqAt.shaped (.list (ns.map .int)) = true := shaped_list fun d hd => by
  obtain ⟨n, _, rfl⟩ := List.mem_map.mp hd
  simp [PyData.canLay0, PyData.depth]
theorem shaped_nil : SeqAt.shaped (.list []) = true := shaped_ints []
/-- all names lie in a scope -/
def Tm.In : Tm → Nat → Prop := Tm.fold (fun k s => k < s) (fun _ ps s => ∀ p ∈ ps, p.2 (s + p.1)) (fun _ ts s => ∀ t ∈ ts, t s)
theorem Tm.In_name (k s : Nat) : (Tm.name k).In s ↔ k < s := by unfold Tm.In; rw [Tm.fold_name]
theorem Tm.In_sign (w : Str) (ps : List (Nat × Tm)) (s : Nat) : (Tm.sign w ps).In s ↔ ∀ p ∈ ps, p.2.In (s + p.1) := by
  unfold Tm.In; rw [Tm.fold_sign]; simp only [List.mem_map, forall_exists_index, and_imp, forall_apply_eq_imp_iff₂]
theorem Tm.In_hole (w : Str) (ts : List Tm) (s : Nat) : (Tm.hole w ts).In s ↔ ∀ t ∈ ts, t.In s := by
  unfold Tm.In; rw [Tm.fold_hole]; simp only [List.mem_map, forall_exists_index, and_imp, forall_apply_eq_imp_iff₂]
/-- what holds of each sign and each hole of a term -/
def Tm.Ok (S : Str → List Nat → Prop) (O : Str → Nat → Prop) : Tm → Prop := Tm.fold (fun _ => True) (fun w ps => S w (ps.map (·.1)) ∧ ∀ p ∈ ps, p.2) (fun w ts => O w ts.length ∧ ∀ t ∈ ts, t)
section
variable {S : Str → List Nat → Prop} {O : Str → Nat → Prop}
theorem Tm.Ok_name (k : Nat) : (Tm.name k).Ok S O ↔ True := by unfold Tm.Ok; rw [Tm.fold_name]
theorem Tm.Ok_sign (w : Str) (ps : List (Nat × Tm)) : (Tm.sign w ps).Ok S O ↔ S w (ps.map (·.1)) ∧ ∀ p ∈ ps, p.2.Ok S O := by
  unfold Tm.Ok; rw [Tm.fold_sign]; simp only [List.mem_map, forall_exists_index, and_imp, forall_apply_eq_imp_iff₂, List.map_map]; rfl
theorem Tm.Ok_hole (w : Str) (ts : List Tm) : (Tm.hole w ts).Ok S O ↔ O w ts.length ∧ ∀ t ∈ ts, t.Ok S O := by
  unfold Tm.Ok; rw [Tm.fold_hole]; simp only [List.mem_map, forall_exists_index, and_imp, forall_apply_eq_imp_iff₂, List.length_map]
theorem Tm.Ok.inner {t : Tm} (h : t.Ok S O) {p : Nat × Tm} (hp : p ∈ t.inner) : p.2.Ok S O := by
  cases t with
  | name k => simp [Tm.inner] at hp
  | sign w ps => exact ((Tm.Ok_sign w ps).mp h).2 p hp
  | hole w ts =>
    simp only [Tm.inner, List.mem_map] at hp
    obtain ⟨t, ht, rfl⟩ := hp
    exact ((Tm.Ok_hole w ts).mp h).2 t ht
theorem Tm.Ok.lay {t : Tm} (h : t.Ok S O) (hS : ∀ w l, S w l → PyData.strOk w = true) (hO : ∀ w l, O w l → PyData.strOk w = true) : t.Lay := by
  induction t using Tm.ind with
  | hn k => intro w hw; simp [Tm.words_name] at hw
  | hs w ps ih =>
    intro v hv
    rw [Tm.words_sign] at hv
    have h' := (Tm.Ok_sign w ps).mp h
    rcases List.mem_cons.mp hv with rfl | hv
    · exact hS _ _ h'.1
    · obtain ⟨l, hl, hv⟩ := List.mem_flatten.mp hv
      obtain ⟨p, hp, rfl⟩ := List.mem_map.mp hl
      exact ih p hp (h'.2 p hp) v hv
  | hh w ts ih =>
    intro v hv
    rw [Tm.words_hole] at hv
    have h' := (Tm.Ok_hole w ts).mp h
    rcases List.mem_cons.mp hv with rfl | hv
    · exact hO _ _ h'.1
    · obtain ⟨l, hl, hv⟩ := List.mem_flatten.mp hv
      obtain ⟨p, hp, rfl⟩ := List.mem_map.mp hl
      exact ih p hp (h'.2 p hp) v hv
end
theorem kitB_NoneType_bool : kitB "NoneType" "bool" = some false := by decide +kernel
theorem kitB_NoneType_int : kitB "NoneType" "int" = some false := by decide +kernel
theorem kitB_NoneType_str : kitB "NoneType" "str" = some false := by decide +kernel
theorem kitB_NoneType_tuple : kitB "NoneType" "tuple" = some false := by decide +kernel
theorem kitB_NoneType_list : kitB "NoneType" "list" = some false := by decide +kernel
theorem kitB_NoneType_dict : kitB "NoneType" "dict" = some false := by decide +kernel
theorem kitB_bool_bool : kitB "bool" "bool" = some true := by decide +kernel
theorem kitB_bool_int : kitB "bool" "int" = some true := by decide +kernel
theorem kitB_bool_str : kitB "bool" "str" = some false := by decide +kernel
theorem kitB_bool_tuple : kitB "bool" "tuple" = some false := by decide +kernel
theorem kitB_bool_list : kitB "bool" "list" = some false := by decide +kernel
theorem kitB_bool_dict : kitB "bool" "dict" = some false := by decide +kernel
theorem kitB_int_bool : kitB "int" "bool" = some false := by decide +kernel
theorem kitB_int_int : kitB "int" "int" = some true := by decide +kernel
theorem kitB_int_str : kitB "int" "str" = some false := by decide +kernel
theorem kitB_int_tuple : kitB "int" "tuple" = some false := by decide +kernel
theorem kitB_int_list : kitB "int" "list" = some false := by decide +kernel
theorem kitB_int_dict : kitB "int" "dict" = some false := by decide +kernel
theorem kitB_str_bool : kitB "str" "bool" = some false := by decide +kernel
theorem kitB_str_int : kitB "str" "int" = some false := by decide +kernel
theorem kitB_str_str : kitB "str" "str" = some true := by decide +kernel
theorem kitB_str_tuple : kitB "str" "tuple" = some false := by decide +kernel
theorem kitB_str_list : kitB "str" "list" = some false := by decide +kernel
theorem kitB_str_dict : kitB "str" "dict" = some false := by decide +kernel
theorem kitB_tuple_bool : kitB "tuple" "bool" = some false := by decide +kernel
theorem kitB_tuple_int : kitB "tuple" "int" = some false := by decide +kernel
theorem kitB_tuple_str : kitB "tuple" "str" = some false := by decide +kernel
theorem kitB_tuple_tuple : kitB "tuple" "tuple" = some true := by decide +kernel
theorem kitB_tuple_list : kitB "tuple" "list" = some false := by decide +kernel
theorem kitB_tuple_dict : kitB "tuple" "dict" = some false := by decide +kernel
theorem kitB_list_bool : kitB "list" "bool" = some false := by decide +kernel
theorem kitB_list_int : kitB "list" "int" = some false := by decide +kernel
theorem kitB_list_str : kitB "list" "str" = some false := by decide +kernel
theorem kitB_list_tuple : kitB "list" "tuple" = some false := by decide +kernel
theorem kitB_list_list : kitB "list" "list" = some true := by decide +kernel
theorem kitB_list_dict : kitB "list" "dict" = some false := by decide +kernel
theorem kitB_dict_bool : kitB "dict" "bool" = some false := by decide +kernel
theorem kitB_dict_int : kitB "dict" "int" = some false := by decide +kernel
theorem kitB_dict_str : kitB "dict" "str" = some false := by decide +kernel
theorem kitB_dict_tuple : kitB "dict" "tuple" = some false := by decide +kernel
theorem kitB_dict_list : kitB "dict" "list" = some false := by decide +kernel
theorem kitB_dict_dict : kitB "dict" "dict" = some true := by decide +kernel
theorem fits_of {x : Int} (h1 : -4000000000 ≤ x) (h2 : x ≤ 4000000000) : Builtin.Range.rangeFitsLong x = true := by
  unfold Builtin.Range.rangeFitsLong
  simp
  omega
theorem size_of {a b c : Int} (ha : 0 ≤ a) (ha2 : a ≤ 1000000) (hb : 0 ≤ b) (hb2 : b ≤ 1000000) (hc : 0 < c) (hc2 : c ≤ 1000000) : 0 ≤ Builtin.Range.rangeSize a b c ∧ Builtin.Range.rangeSize a b c ≤ 1000000 := by
  unfold Builtin.Range.rangeSize
  rw [if_pos hc]
  split
  · have h1 : 0 ≤ (b - a - 1) / c := Int.ediv_nonneg (by omega) (by omega)
    have h2 : (b - a - 1) / c ≤ b - a - 1 := Int.ediv_le_self _ (by omega)
    omega
  · omega
theorem small_of {a b c : Int} (ha : 0 ≤ a) (ha2 : a ≤ 1000000) (hb : 0 ≤ b) (hb2 : b ≤ 1000000) (hc : 0 < c) (hc2 : c ≤ 1000000) : Builtin.Range.small a b c = true := by
  have h := size_of ha ha2 hb hb2 hc hc2
  unfold Builtin.Range.small
  rw [fits_of (by omega) (by omega), fits_of (by omega) (by omega), fits_of (by omega) (by omega), fits_of (by omega) (by omega), if_pos hc, fits_of (by omega) (by omega)]
  simp
theorem rg3_of {a b c : Int} (ha : 0 ≤ a) (ha2 : a ≤ 1000000) (hb : 0 ≤ b) (hb2 : b ≤ 1000000) (hc : 0 < c) (hc2 : c ≤ 1000000) : rg3Ok a b c = true := by
  have h := size_of ha ha2 hb hb2 hc hc2
  unfold rg3Ok rgLen
  rw [small_of ha ha2 hb hb2 hc hc2]
  simp [sizeLine_val]
  omega
end HF

end
section
set_option Elab.async false
set_option linter.all false
set_option maxRecDepth 20000
set_option autoImplicit false
namespace HF
open PySem PySem.Spec PyProof.Rows L2
noncomputable def b_told_names_1 : Ss := sSeq (sIf (bOr (b2 cpNe (e2 opIx (eVar 2) (eC (.int 0))) (eC (.str "name"))) (b2 cpIn (e2 opIx (eVar 2) (eC (.int 1))) (eVar 1))) (sRet (eC .non)) sNop) (sExp (eM1 opApp (eVar 1) (pV (toP (e2 opIx (eVar 2) (eC (.int 1)))))))
noncomputable def b_told_names : Ss := sSeq (sIf (b2 cpNe (e2 opIx (eVar 0) (eC (.int 0))) (eC (.str "hole"))) (sRet (eC .non)) sNop) (sSeq (sOwn 1 (eLst aNil)) (sSeq (sForIn (srcP (toP (e2 opIx (eVar 0) (eC (.int 2))))) (.nm 2) b_told_names_1 [2]) (sRet (e1 opTupOf (eVar 1)))))
noncomputable def f_told_names : Fn := runDef 1 3 b_told_names
noncomputable def b_is_straight (r_is_straight : Fn) : Ss := sSeq (sIf (b2 cpEq (e2 opIx (eVar 0) (eC (.int 0))) (eC (.str "name"))) (sRet (eC (.bl true))) sNop) (sSeq (sIf (b2 cpEq (e2 opIx (eVar 0) (eC (.int 0))) (eC (.str "sign"))) (sRet (e1 opAll (eLc (srcOf (e2 opIx (eVar 0) (eC (.int 2)))) (.tp [1, 2]) [1, 2] bYes (toP (eCall r_is_straight [] (aCons (toP (eVar 2)) aNil)))))) sNop) (sRet (eB (bNot (bNon (eCall f_told_names [] (aCons (toP (eVar 0)) aNil)))))))
noncomputable def f_is_straight : Nat → Fn
  | 0 => fun _ _ => .bad
  | n + 1 => runDef 1 3 (b_is_straight (f_is_straight n))
noncomputable def b_law_state : Ss := sSeq (sIf (b2 cpEq (e2 opMod (eVar 0) (eC (.int 2))) (eC (.int 1))) (sRet (eLst (aCons (toP (e2 opDiv (eVar 0) (eC (.int 2)))) (aCons (toP (eC (.int 0))) (aCons (toP (eC (.bl true))) aNil))))) sNop) (sSeq (sSet 2 (toP (e2 opMod (e2 opAdd (e2 opAdd (e2 opMod (eVar 0) (e2 opPow (eC (.int 10)) (eC (.int 60)))) (e2 opMul (eC (.int 1000003)) (eVar 1))) (eC (.int 12345))) (eC (.int 2305843009213693951))))) (sRet (eLst (aCons (toP (e2 opMod (e2 opMul (e2 opMod (e2 opMul (eVar 2) (eVar 2)) (eC (.int 2305843009213693951))) (eC (.int 48271))) (eC (.int 2305843009213693951)))) (aCons (toP (eC (.int 0))) (aCons (toP (eC (.bl false))) aNil))))))
noncomputable def f_law_state : Fn := runDef 2 3 b_law_state
noncomputable def b_law_next : Ss := sSeq (sIf (bVal (e2 opIx (eVar 0) (eC (.int 2)))) (sSeq (sPatSub (toP (e2 opDvm (e2 opIx (eVar 0) (eC (.int 0))) (eVar 1))) (eVar 0) (eC (.int 0)) 2) (sRet (eVar 2))) sNop) (sSeq (sSub (toP (e2 opMod (e2 opAdd (e2 opMul (e2 opIx (eVar 0) (eC (.int 0))) (eC (.int 3360675291))) (eC (.int 2147483629))) (eC (.int 2305843009213693951)))) (eVar 0) (eC (.int 0))) (sRet (e2 opMod (e2 opDiv (e2 opIx (eVar 0) (eC (.int 0))) (eC (.int 1048583))) (eVar 1))))
noncomputable def f_law_next : Fn := runDef 2 3 b_law_next
noncomputable def b_law_fresh_1 : Ss := sSeq (sSub (toP (e2 opAdd (e2 opIx (eVar 0) (eC (.int 1))) (eC (.int 1)))) (eVar 0) (eC (.int 1))) (sExp (eM1 opApp (eVar 2) (pV (toP (e2 opIx (eVar 0) (eC (.int 1)))))))
noncomputable def b_law_fresh : Ss := sSeq (sOwn 2 (eLst aNil)) (sSeq (sForIn (srcR1 (aCons (toP (eVar 1)) aNil)) (.nm 3) b_law_fresh_1 [3]) (sRet (eVar 2)))
noncomputable def f_law_fresh : Fn := runDef 2 4 b_law_fresh
noncomputable def b_law_words : Ss := sSeq (sSet 2 (toP (eC (.str "abcdefghijklmnopqrstuvwxyz")))) (sSeq (sSet 3 (toP (eJoin (eC (.str "")) (eLc (srcR1 (aCons (toP (eCall f_law_next [] (aCons (toP (eVar 0)) (aCons (toP (eC (.int 8))) aNil)))) aNil)) (.nm 6) [6] bYes (toP (e2 opIx (eVar 2) (eCall f_law_next [] (aCons (toP (eVar 0)) (aCons (toP (eC (.int 26))) aNil))))))))) (sSeq (sSet 4 (toP (eCall f_law_next [] (aCons (toP (eVar 0)) (aCons (toP (e2 opAdd (e1 opLen (eVar 3)) (eC (.int 1)))) aNil))))) (sSeq (sSet 5 (toP (eCall f_law_next [] (aCons (toP (eVar 0)) (aCons (toP (eC (.int 26))) aNil))))) (sRet (eLc (srcR1 (aCons (toP (eVar 1)) aNil)) (.nm 6) [6] bYes (toP (e2 opAdd (e2 opAdd (eSl (eVar 3) oNo (oSome (eVar 4))) (e2 opIx (eVar 2) (e2 opMod (e2 opAdd (eVar 5) (e2 opMul (eC (.int 5)) (eVar 6))) (eC (.int 26))))) (eSl (eVar 3) (oSome (eVar 4)) oNo))))))))
noncomputable def f_law_words : Fn := runDef 2 7 b_law_words
noncomputable def b_law_told_1 : Ss := sExp (eM1 opApp (eVar 7) (pV (toP (eTup (aCons (toP (eC (.str "var"))) (aCons (toP (eM1 opPopAt (eVar 6) (eCall f_law_next [] (aCons (toP (eVar 0)) (aCons (toP (e1 opLen (eVar 6))) aNil))))) aNil))))))
noncomputable def b_law_told : Ss := sSeq (sOwn 6 (e1 opLst (eVar 1))) (sSeq (sOwn 7 (eLst aNil)) (sSeq (sForIn (srcR1 (aCons (toP (eVar 2)) aNil)) (.nm 8) b_law_told_1 [8]) (sSeq (sIf (bAnd (b2 cpEq (eVar 3) (eC (.int 1))) (b2 cpGt (eVar 2) (eC (.int 1)))) (sSub (toP (e2 opIx (eVar 7) (e1 opNeg (eC (.int 1))))) (eVar 7) (eCall f_law_next [] (aCons (toP (eVar 0)) (aCons (toP (e2 opSub (eVar 2) (eC (.int 1)))) aNil)))) sNop) (sSeq (sIf (bAnd (b2 cpEq (eVar 3) (eC (.int 2))) (b2 cpGt (eVar 2) (eC (.int 0)))) (sSeq (sSet 9 (toP (eLst (aCons (toP (eTup (aCons (toP (eC (.str "sign"))) (aCons (toP (e2 opIx (eVar 4) (eC (.int 0)))) (aCons (toP (eLst aNil)) aNil))))) (aCons (toP (eTup (aCons (toP (eC (.str "hole"))) (aCons (toP (e2 opIx (eVar 5) (eC (.int 0)))) (aCons (toP (eLst aNil)) aNil))))) (aCons (toP (eTup (aCons (toP (eC (.str "sign"))) (aCons (toP (e2 opIx (eVar 4) (eC (.int 1)))) (aCons (toP (eLst (aCons (toP (eTup (aCons (toP (eLst aNil)) (aCons (toP (e2 opIx (eVar 7) (eC (.int 0)))) aNil)))) aNil))) aNil))))) aNil)))))) (sSub (toP (e2 opIx (eVar 9) (eCall f_law_next [] (aCons (toP (eVar 0)) (aCons (toP (eC (.int 3))) aNil))))) (eVar 7) (eCall f_law_next [] (aCons (toP (eVar 0)) (aCons (toP (eVar 2)) aNil))))) sNop) (sRet (eVar 7))))))
noncomputable def f_law_told : Fn := runDef 6 10 b_law_told
noncomputable def b_law_mostly_1 (r_law_mostly : Fn) : Ss := sSeq (sSet 10 (toP (eCall f_law_fresh [] (aCons (toP (eVar 0)) (aCons (toP (e2 opIx (eLst (aCons (toP (eC (.int 0))) (aCons (toP (eC (.int 1))) (aCons (toP (eC (.int 1))) (aCons (toP (eC (.int 2))) aNil))))) (eCall f_law_next [] (aCons (toP (eVar 0)) (aCons (toP (eC (.int 4))) aNil))))) aNil))))) (sExp (eM1 opApp (eVar 6) (pV (toP (eTup (aCons (toP (eVar 10)) (aCons (toP (eCall r_law_mostly [] (aCons (toP (eVar 0)) (aCons (toP (e2 opAdd (eVar 1) (eVar 10))) (aCons (toP (e2 opSub (eVar 2) (eC (.int 1)))) (aCons (toP (eVar 3)) (aCons (toP (eVar 4)) aNil))))))) aNil)))))))
noncomputable def b_law_mostly (r_law_mostly : Fn) : Ss := sSeq (sSet 5 (toP (eCall f_law_next [] (aCons (toP (eVar 0)) (aCons (toP (eC (.int 8))) aNil))))) (sSeq (sIf (bOr (b2 cpLt (eVar 5) (eC (.int 3))) (bAnd (b2 cpEq (eVar 2) (eC (.int 0))) (b2 cpLt (eVar 5) (eC (.int 5))))) (sSeq (sSet 7 (toP (eCall f_law_next [] (aCons (toP (eVar 0)) (aCons (toP (e2 opAdd (e2 opMin2 (e1 opLen (eVar 1)) (eC (.int 3))) (eC (.int 1)))) aNil))))) (sSeq (sSet 8 (toP (e2 opIx (eVar 4) (e2 opAdd (e2 opMul (eC (.int 2)) (eVar 7)) (eCall f_law_next [] (aCons (toP (eVar 0)) (aCons (toP (eC (.int 2))) aNil))))))) (sRet (eTup (aCons (toP (eC (.str "hole"))) (aCons (toP (eVar 8)) (aCons (toP (eCall f_law_told [] (aCons (toP (eVar 0)) (aCons (toP (eVar 1)) (aCons (toP (eVar 7)) (aCons (toP (eCall f_law_next [] (aCons (toP (eVar 0)) (aCons (toP (eC (.int 8))) aNil)))) (aCons (toP (eVar 3)) (aCons (toP (eVar 4)) aNil)))))))) aNil))))))) sNop) (sSeq (sIf (bAnd (b2 cpEq (eVar 5) (eC (.int 3))) (b2 cpNe (eVar 1) (eLst aNil))) (sRet (eTup (aCons (toP (eC (.str "var"))) (aCons (toP (e2 opIx (eVar 1) (eCall f_law_next [] (aCons (toP (eVar 0)) (aCons (toP (e1 opLen (eVar 1))) aNil))))) aNil)))) sNop) (sSeq (sOwn 6 (eLst aNil)) (sSeq (sIf (b2 cpGt (eVar 2) (eC (.int 0))) (sForIn (srcR1 (aCons (toP (eCall f_law_next [] (aCons (toP (eVar 0)) (aCons (toP (eC (.int 4))) aNil)))) aNil)) (.nm 9) (b_law_mostly_1 r_law_mostly) [9, 10]) sNop) (sRet (eTup (aCons (toP (eC (.str "sign"))) (aCons (toP (e2 opIx (eVar 3) (eCall f_law_next [] (aCons (toP (eVar 0)) (aCons (toP (e1 opLen (eVar 3))) aNil))))) (aCons (toP (eVar 6)) aNil)))))))))
noncomputable def f_law_mostly : Nat → Fn
  | 0 => fun _ _ => .bad
  | n + 1 => runDef 5 11 (b_law_mostly (f_law_mostly n))
noncomputable def b_law_term_1 (r_law_term : Fn) : Ss := sSet 2 (toP (e2 opSub (eVar 2) (eC (.int 1))))
noncomputable def b_law_term (r_law_term : Fn) : Ss := sSeq (sIf (b2 cpEq (e2 opIx (eVar 0) (eC (.int 0))) (eC (.str "var"))) (sSeq (sSet 2 (toP (e2 opSub (e1 opLen (eVar 1)) (eC (.int 1))))) (sSeq (sWhile (b2 cpNe (e2 opIx (eVar 1) (eVar 2)) (e2 opIx (eVar 0) (eC (.int 1)))) (b_law_term_1 r_law_term) [] 100000000) (sRet (eTup (aCons (toP (eC (.str "name"))) (aCons (toP (e2 opSub (e2 opSub (e1 opLen (eVar 1)) (eC (.int 1))) (eVar 2))) aNil)))))) sNop) (sSeq (sIf (b2 cpEq (e2 opIx (eVar 0) (eC (.int 0))) (eC (.str "sign"))) (sRet (eTup (aCons (toP (eC (.str "sign"))) (aCons (toP (e2 opIx (eVar 0) (eC (.int 1)))) (aCons (toP (e1 opTupOf (eLc (srcOf (e2 opIx (eVar 0) (eC (.int 2)))) (.tp [4, 5]) [4, 5] bYes (toP (eTup (aCons (toP (e1 opLen (eVar 4))) (aCons (toP (eCall r_law_term [] (aCons (toP (eVar 5)) (aCons (toP (e2 opAdd (eVar 1) (eVar 4))) aNil)))) aNil))))))) aNil))))) sNop) (sRet (eTup (aCons (toP (eC (.str "hole"))) (aCons (toP (e2 opIx (eVar 0) (eC (.int 1)))) (aCons (toP (e1 opTupOf (eLc (srcOf (e2 opIx (eVar 0) (eC (.int 2)))) (.nm 3) [3] bYes (toP (eCall r_law_term [] (aCons (toP (eVar 3)) (aCons (toP (eVar 1)) aNil))))))) aNil))))))
noncomputable def f_law_term : Nat → Fn
  | 0 => fun _ _ => .bad
  | n + 1 => runDef 2 6 (b_law_term (f_law_term n))
noncomputable def b_law_due_1 : Ss := sSeq (sIf (b2 cpNe (e2 opIx (eVar 2) (eC (.int 0))) (eC (.str "name"))) (sRet (eC .non)) sNop) (sExp (eM1 opApp (eVar 1) (pV (toP (e2 opIx (eVar 2) (eC (.int 1)))))))
noncomputable def b_law_due : Ss := sSeq (sIf (b2 cpNe (e2 opIx (eVar 0) (eC (.int 0))) (eC (.str "hole"))) (sRet (eC .non)) sNop) (sSeq (sOwn 1 (eLst aNil)) (sSeq (sForIn (srcP (toP (e2 opIx (eVar 0) (eC (.int 2))))) (.nm 2) b_law_due_1 [2]) (sSeq (sIf (b2 cpLt (e1 opLenSet (eVar 1)) (e1 opLen (eVar 1))) (sRet (eC .non)) sNop) (sRet (e1 opTupOf (eVar 1))))))
noncomputable def f_law_due : Fn := runDef 1 3 b_law_due
noncomputable def b_law_right : Ss := sSeq (sIf (bOr (bNon (eVar 1)) (bNon (eVar 0))) (sRet (eAnd (eB (bNon (eVar 0))) (eB (bNon (eVar 1))))) sNop) (sSeq (sIf (bOr (bNot (bVal (e1 (opIsi "tuple") (eVar 0)))) (b2 cpNe (eVar 0) (eVar 1))) (sRet (eC (.bl false))) sNop) (sRet (e1 opAll (eLc (srcOf (eVar 0)) (.nm 2) [2] bYes (toP (eAnd (e1 (opIsi "int") (eVar 2)) (eB (bNot (bVal (e1 (opIsi "bool") (eVar 2)))))))))))
noncomputable def f_law_right : Fn := runDef 2 3 b_law_right
noncomputable def b_law_within_1 (r_law_within : Fn) : Ss := sSet 1 (toP (e2 opAdd (eVar 1) (eCall r_law_within [] (aCons (toP (eVar 3)) aNil))))
noncomputable def b_law_within (r_law_within : Fn) : Ss := sSeq (sSet 1 (toP (eLst (aCons (toP (eVar 0)) aNil)))) (sSeq (sSet 2 (toP (eLst aNil))) (sSeq (sIf (b2 cpEq (e2 opIx (eVar 0) (eC (.int 0))) (eC (.str "sign"))) (sSet 2 (toP (eLc (srcOf (e2 opIx (eVar 0) (eC (.int 2)))) (.tp [4, 5]) [4, 5] bYes (toP (eVar 5))))) sNop) (sSeq (sIf (b2 cpEq (e2 opIx (eVar 0) (eC (.int 0))) (eC (.str "hole"))) (sSet 2 (toP (e1 opLst (e2 opIx (eVar 0) (eC (.int 2)))))) sNop) (sSeq (sForIn (srcP (toP (eVar 2))) (.nm 3) (b_law_within_1 r_law_within) [3]) (sRet (eVar 1))))))
noncomputable def f_law_within : Nat → Fn
  | 0 => fun _ _ => .bad
  | n + 1 => runDef 1 6 (b_law_within (f_law_within n))
noncomputable def b_law_good : Ss := sSeq (sCell 2 (eCall f_law_state [] (aCons (toP (eVar 0)) (aCons (toP (eVar 1)) aNil)))) (sSeq (sSet 3 (toP (eCall f_law_words [] (aCons (toP (eVar 2)) (aCons (toP (eC (.int 10))) aNil))))) (sSeq (sSet 4 (toP (eCall f_law_fresh [] (aCons (toP (eVar 2)) (aCons (toP (eCall f_law_next [] (aCons (toP (eVar 2)) (aCons (toP (eC (.int 4))) aNil)))) aNil))))) (sSeq (sSet 5 (toP (eCall (f_law_term 12) [] (aCons (toP (eCall (f_law_mostly 5) [] (aCons (toP (eVar 2)) (aCons (toP (eVar 4)) (aCons (toP (eC (.int 3))) (aCons (toP (eSl (eVar 3) oNo (oSome (eC (.int 4))))) (aCons (toP (eSl (eVar 3) (oSome (eC (.int 2))) oNo)) aNil))))))) (aCons (toP (eVar 4)) aNil))))) (sSeq (sSet 6 (toP (eCall (f_law_within 12) [] (aCons (toP (eVar 5)) aNil)))) (sSeq (sSet 7 (toP (eLc (srcOf (eVar 6)) (.nm 9) [9] (b2 cpEq (e2 opIx (eVar 9) (eC (.int 0))) (eC (.str "hole"))) (toP (eVar 9))))) (sSeq (sSet 8 (toP (eCall (f_is_straight 12) [] (aCons (toP (eVar 5)) aNil)))) (sSeq (sIf (bOr (bNot (bVal (e1 (opIsi "bool") (eVar 8)))) (b2 cpNe (eVar 8) (e1 opAll (eLc (srcOf (eVar 7)) (.nm 9) [9] bYes (toP (eB (bNot (bNon (eCall f_law_due [] (aCons (toP (eVar 9)) aNil)))))))))) (sRet (eC (.bl false))) sNop) (sRet (e1 opAll (eLc (srcOf (eVar 6)) (.nm 9) [9] bYes (toP (eCall f_law_right [] (aCons (toP (eCall f_told_names [] (aCons (toP (eVar 9)) aNil))) (aCons (toP (eCall f_law_due [] (aCons (toP (eVar 9)) aNil))) aNil))))))))))))))
noncomputable def f_law_good : Fn := runDef 2 10 b_law_good
noncomputable def b_law_1 : Ss := sIf (bNot (bVal (eCall f_law_good [] (aCons (toP (eVar 2)) (aCons (toP (eVar 1)) aNil))))) (sRet (eC (.bl false))) sNop
noncomputable def b_law : Ss := sSeq (sForIn (srcEn (e2 opAdd (eLst (aCons (toP (eC (.int 0))) aNil)) (eSl (eVar 0) oNo (oSome (eC (.int 30)))))) (.tp [1, 2]) b_law_1 [1, 2]) (sRet (eC (.bl true)))
noncomputable def f_law : Fn := runDef 1 3 b_law
end HF

end
section
set_option Elab.async false
set_option linter.all false
set_option maxRecDepth 20000
set_option autoImplicit false
namespace HF
open PySem PySem.Spec PyProof.Rows L2
def top (i : Nat) : Stmt := PySem.Challenge.pw_holeform_k24_straight.main.body.getD i (.Pass ⟨0, 0, 0, 0⟩)
abbrev s_told_names : Stmt := top 1
abbrev s_is_straight : Stmt := top 2
abbrev s_law_state : Stmt := top 4
abbrev s_law_next : Stmt := top 5
abbrev s_law_fresh : Stmt := top 6
abbrev s_law_words : Stmt := top 7
abbrev s_law_told : Stmt := top 8
abbrev s_law_mostly : Stmt := top 9
abbrev s_law_term : Stmt := top 10
abbrev s_law_due : Stmt := top 11
abbrev s_law_right : Stmt := top 12
abbrev s_law_within : Stmt := top 13
abbrev s_law_good : Stmt := top 14
abbrev s_law : Stmt := top 15
structure Tops (Z : Wd) : Prop where
  t_told_names : DefAt Z "told_names" s_told_names ["term"]
  t_is_straight : DefAt Z "is_straight" s_is_straight ["term"]
  t_law_state : DefAt Z "_law_state" s_law_state ["_law_cell", "_law_k"]
  t_law_next : DefAt Z "_law_next" s_law_next ["_law_state_here", "_law_many"]
  t_law_fresh : DefAt Z "_law_fresh" s_law_fresh ["_law_state_here", "_law_many"]
  t_law_words : DefAt Z "_law_words" s_law_words ["_law_state_here", "_law_many"]
  t_law_told : DefAt Z "_law_told" s_law_told ["_law_state_here", "_law_ids", "_law_many", "_law_odd", "_law_signs", "_law_holes"]
  t_law_mostly : DefAt Z "_law_mostly" s_law_mostly ["_law_state_here", "_law_ids", "_law_deep", "_law_signs", "_law_holes"]
  t_law_term : DefAt Z "_law_term" s_law_term ["_law_drawn", "_law_env"]
  t_law_due : DefAt Z "_law_due" s_law_due ["_law_term_here"]
  t_law_right : DefAt Z "_law_right" s_law_right ["_law_found", "_law_due_here"]
  t_law_within : DefAt Z "_law_within" s_law_within ["_law_term_here"]
  t_law_good : DefAt Z "_law_good" s_law_good ["_law_cell", "_law_k"]
  t_law : DefAt Z "law" s_law ["_law_script"]
  m_all : Z.mg "all" = none
  m_bool : Z.mg "bool" = none
  m_divmod : Z.mg "divmod" = none
  m_enumerate : Z.mg "enumerate" = none
  m_int : Z.mg "int" = none
  m_isinstance : Z.mg "isinstance" = none
  m_len : Z.mg "len" = none
  m_list : Z.mg "list" = none
  m_min : Z.mg "min" = none
  m_range : Z.mg "range" = none
  m_set : Z.mg "set" = none
  m_tuple : Z.mg "tuple" = none
abbrev n_told_names : List Str := ["term", "names", "one"]
theorem sc_told_names : FnScope n_told_names ["term"] (defScope s_told_names) := ⟨rfl, rfl, rfl, by decide +kernel, rfl, by decide +kernel, by decide +kernel⟩
set_option maxHeartbeats 4000000 in
theorem d_told_names {Z : Wd} (T : Tops Z) : ∀ f fd, Fun Z.K "told_names" "told_names" s_told_names f fd → FnOk Z.P Z.w Z.K Z.mg Z.base (L2.CX Z.P Z.w) (0 + 1) f fd ["term"] (spOf Z.K Z.mg (runDef 1 3 (b_told_names))) := fun f fd F =>
  def_ok F sc_told_names fun X E W A => fss_cons (fs_if (ft_ne A (fe_ix A (fe_var A (i := 0) rfl rfl) fe_int) fe_str) (fss_one (fs_ret fe_non)) fss_nil) (fss_cons (fs_own A (i := 1) rfl rfl (fe_lst fl_nil)) (fss_cons (fs_for A [2] (fi_of ((fe_ix A (fe_var A (i := 0) rfl rfl) fe_int).toP).fe) srcP_ns (fg_name A (i := 2) rfl rfl) (fss_cons (fs_if ((fw_or (ft_ne A (fe_ix A (fe_var A (i := 2) rfl rfl) fe_int) fe_str) (fw_or1 (ft_in A (fe_ix A (fe_var A (i := 2) rfl rfl) fe_int) (fe_var A (i := 1) rfl rfl)))).ft) (fss_one (fs_ret fe_non)) fss_nil) (fss_one (fs_exp (fe_append (fe_var A (i := 1) rfl rfl) ((fe_ix A (fe_var A (i := 2) rfl rfl) fe_int).toP)))))) (fss_one (fs_ret (fe_tuple A T.m_tuple (fe_var A (i := 1) rfl rfl))))))
theorem k_told_names {Z : Wd} (T : Tops Z) : Known Z 1 "told_names" [] f_told_names := T.t_told_names.known (d_told_names T)
abbrev n_is_straight : List Str := ["term", "many", "part"]
theorem sc_is_straight : FnScope n_is_straight ["term"] (defScope s_is_straight) := ⟨rfl, rfl, rfl, by decide +kernel, rfl, by decide +kernel, by decide +kernel⟩
set_option maxHeartbeats 4000000 in
theorem d_is_straight {Z : Wd} {k : Nat} (T : Tops Z) {r_is_straight : Fn} (K_is_straight : Known Z k "is_straight" [] r_is_straight) (hk : 1 ≤ k) : ∀ f fd, Fun Z.K "is_straight" "is_straight" s_is_straight f fd → FnOk Z.P Z.w Z.K Z.mg Z.base (L2.CX Z.P Z.w) (k + 1) f fd ["term"] (spOf Z.K Z.mg (runDef 1 3 (b_is_straight r_is_straight))) := fun f fd F =>
  def_ok F sc_is_straight fun X E W A => fss_cons (fs_if (ft_eq A (fe_ix A (fe_var A (i := 0) rfl rfl) fe_int) fe_str) (fss_one (fs_ret fe_bl)) fss_nil) (fss_cons (fs_if (ft_eq A (fe_ix A (fe_var A (i := 0) rfl rfl) fe_int) fe_str) (fss_one (fs_ret (fe_all A T.m_all (lc_rule A (own := [("many", 1), ("part", 2)]) (fi_of (fe_ix A (fe_var A (i := 0) rfl rfl) fe_int)) (by decide +kernel) (by decide) (fun _ A' => fg_tup A' (fgs_cons (fg_name A' (i := 1) rfl rfl) (fgs_cons (fg_name A' (i := 2) rfl rfl) fgs_nil))) (fun _ A' => fts_nil) (fun _ A' => (fe_call A' K_is_straight (fl_cons ((fe_var A' (i := 2) rfl rfl).toP) fl_nil)).toP))))) fss_nil) (fss_one (fs_ret (fe_notN (fe_call A ((k_told_names T).mono (Nat.le_trans (by decide) hk)) (fl_cons ((fe_var A (i := 0) rfl rfl).toP) fl_nil))))))
theorem ks_is_straight {Z : Wd} (T : Tops Z) : ∀ n : Nat, Known Z (1 + n) "is_straight" [] (f_is_straight n)
  | 0 => T.t_is_straight.none
  | n + 1 => by
    have ih := ks_is_straight T n
    exact T.t_is_straight.known (d_is_straight T ih (Nat.le_add_right _ n))
theorem k_is_straight {Z : Wd} (T : Tops Z) : Known Z 13 "is_straight" [] (f_is_straight 12) := (ks_is_straight T 12)
abbrev n_law_state : List Str := ["_law_cell", "_law_k", "_law_number"]
theorem sc_law_state : FnScope n_law_state ["_law_cell", "_law_k"] (defScope s_law_state) := ⟨rfl, rfl, rfl, by decide +kernel, rfl, by decide +kernel, by decide +kernel⟩
set_option maxHeartbeats 4000000 in
theorem d_law_state {Z : Wd} (T : Tops Z) : ∀ f fd, Fun Z.K "_law_state" "_law_state" s_law_state f fd → FnOk Z.P Z.w Z.K Z.mg Z.base (L2.CX Z.P Z.w) (0 + 1) f fd ["_law_cell", "_law_k"] (spOf Z.K Z.mg (runDef 2 3 (b_law_state))) := fun f fd F =>
  def_ok F sc_law_state fun X E W A => fss_cons (fs_if (ft_eq A (fe_mod (fe_var A (i := 0) rfl rfl) fe_int) fe_int) (fss_one (fs_ret (fe_lst (fl_cons ((fe_div (fe_var A (i := 0) rfl rfl) fe_int).toP) (fl_cons fe_int.toP (fl_cons fe_bl.toP fl_nil)))))) fss_nil) (fss_cons (fs_set A (i := 2) rfl rfl ((fe_mod (fe_add (fe_add (fe_mod (fe_var A (i := 0) rfl rfl) (fe_pow fe_int fe_int)) (fe_mul fe_int (fe_var A (i := 1) rfl rfl))) fe_int) fe_int).toP)) (fss_one (fs_ret (fe_lst (fl_cons ((fe_mod (fe_mul (fe_mod (fe_mul (fe_var A (i := 2) rfl rfl) (fe_var A (i := 2) rfl rfl)) fe_int) fe_int) fe_int).toP) (fl_cons fe_int.toP (fl_cons fe_bl.toP fl_nil)))))))
theorem k_law_state {Z : Wd} (T : Tops Z) : Known Z 1 "_law_state" [] f_law_state := T.t_law_state.known (d_law_state T)
abbrev n_law_next : List Str := ["_law_state_here", "_law_many", "_law_drawn"]
theorem sc_law_next : FnScope n_law_next ["_law_state_here", "_law_many"] (defScope s_law_next) := ⟨rfl, rfl, rfl, by decide +kernel, rfl, by decide +kernel, by decide +kernel⟩
set_option maxHeartbeats 4000000 in
theorem d_law_next {Z : Wd} (T : Tops Z) : ∀ f fd, Fun Z.K "_law_next" "_law_next" s_law_next f fd → FnOk Z.P Z.w Z.K Z.mg Z.base (L2.CX Z.P Z.w) (0 + 1) f fd ["_law_state_here", "_law_many"] (spOf Z.K Z.mg (runDef 2 3 (b_law_next))) := fun f fd F =>
  def_ok F sc_law_next fun X E W A => fss_cons (fs_if (ft_val (fe_ix A (fe_var A (i := 0) rfl rfl) fe_int)) (fss_cons (fs_patsub A (j := 2) ((fe_divmod A T.m_divmod (fe_ix A (fe_var A (i := 0) rfl rfl) fe_int) (fe_var A (i := 1) rfl rfl)).toP) (fe_var A (i := 0) rfl rfl) fe_int rfl rfl (fun hz => pg_sub (fe_var A (i := 0) rfl rfl).pe fe_int.pe hz)) (fss_one (fs_ret (fe_var A (i := 2) rfl rfl)))) fss_nil) (fss_cons (fs_sub A ((fe_mod (fe_add (fe_mul (fe_ix A (fe_var A (i := 0) rfl rfl) fe_int) fe_int) fe_int) fe_int).toP) (fe_var A (i := 0) rfl rfl) fe_int (fun hz => pg_sub (fe_var A (i := 0) rfl rfl).pe fe_int.pe hz)) (fss_one (fs_ret (fe_mod (fe_div (fe_ix A (fe_var A (i := 0) rfl rfl) fe_int) fe_int) (fe_var A (i := 1) rfl rfl)))))
theorem k_law_next {Z : Wd} (T : Tops Z) : Known Z 1 "_law_next" [] f_law_next := T.t_law_next.known (d_law_next T)
abbrev n_law_fresh : List Str := ["_law_state_here", "_law_many", "_law_ids", "_law_k"]
theorem sc_law_fresh : FnScope n_law_fresh ["_law_state_here", "_law_many"] (defScope s_law_fresh) := ⟨rfl, rfl, rfl, by decide +kernel, rfl, by decide +kernel, by decide +kernel⟩
set_option maxHeartbeats 4000000 in
theorem d_law_fresh {Z : Wd} (T : Tops Z) : ∀ f fd, Fun Z.K "_law_fresh" "_law_fresh" s_law_fresh f fd → FnOk Z.P Z.w Z.K Z.mg Z.base (L2.CX Z.P Z.w) (0 + 1) f fd ["_law_state_here", "_law_many"] (spOf Z.K Z.mg (runDef 2 4 (b_law_fresh))) := fun f fd F =>
  def_ok F sc_law_fresh fun X E W A => fss_cons (fs_own A (i := 2) rfl rfl (fe_lst fl_nil)) (fss_cons (fs_for A [3] (fi_range1 A (A.no T.m_range) (fl_cons ((fe_var A (i := 1) rfl rfl).toP) fl_nil)) srcR1_ns (fg_name A (i := 3) rfl rfl) (fss_cons (fs_sub A ((fe_add (fe_ix A (fe_var A (i := 0) rfl rfl) fe_int) fe_int).toP) (fe_var A (i := 0) rfl rfl) fe_int (fun hz => pg_sub (fe_var A (i := 0) rfl rfl).pe fe_int.pe hz)) (fss_one (fs_exp (fe_append (fe_var A (i := 2) rfl rfl) ((fe_ix A (fe_var A (i := 0) rfl rfl) fe_int).toP)))))) (fss_one (fs_ret (fe_var A (i := 2) rfl rfl))))
theorem k_law_fresh {Z : Wd} (T : Tops Z) : Known Z 1 "_law_fresh" [] f_law_fresh := T.t_law_fresh.known (d_law_fresh T)
abbrev n_law_words : List Str := ["_law_state_here", "_law_many", "_law_letters", "_law_stem", "_law_spot", "_law_start", "_law_k"]
theorem sc_law_words : FnScope n_law_words ["_law_state_here", "_law_many"] (defScope s_law_words) := ⟨rfl, rfl, rfl, by decide +kernel, rfl, by decide +kernel, by decide +kernel⟩
set_option maxHeartbeats 4000000 in
theorem d_law_words {Z : Wd} (T : Tops Z) : ∀ f fd, Fun Z.K "_law_words" "_law_words" s_law_words f fd → FnOk Z.P Z.w Z.K Z.mg Z.base (L2.CX Z.P Z.w) (1 + 1) f fd ["_law_state_here", "_law_many"] (spOf Z.K Z.mg (runDef 2 7 (b_law_words))) := fun f fd F =>
  def_ok F sc_law_words fun X E W A => fss_cons (fs_set A (i := 2) rfl rfl fe_str.toP) (fss_cons (fs_set A (i := 3) rfl rfl ((fe_join fe_str (lc_rule A (own := [("_law_k", 6)]) (fi_range1 A (A.no T.m_range) (fl_cons ((fe_call A ((k_law_next T).mono (by decide)) (fl_cons ((fe_var A (i := 0) rfl rfl).toP) (fl_cons fe_int.toP fl_nil))).toP) fl_nil)) (by decide +kernel) (by decide) (fun _ A' => fg_name A' (i := 6) rfl rfl) (fun _ A' => fts_nil) (fun _ A' => (fe_ix A' (fe_var A' (i := 2) rfl rfl) (fe_call A' ((k_law_next T).mono (by decide)) (fl_cons ((fe_var A' (i := 0) rfl rfl).toP) (fl_cons fe_int.toP fl_nil)))).toP))).toP)) (fss_cons (fs_set A (i := 4) rfl rfl ((fe_call A ((k_law_next T).mono (by decide)) (fl_cons ((fe_var A (i := 0) rfl rfl).toP) (fl_cons ((fe_add (fe_len A T.m_len (fe_var A (i := 3) rfl rfl)) fe_int).toP) fl_nil))).toP)) (fss_cons (fs_set A (i := 5) rfl rfl ((fe_call A ((k_law_next T).mono (by decide)) (fl_cons ((fe_var A (i := 0) rfl rfl).toP) (fl_cons fe_int.toP fl_nil))).toP)) (fss_one (fs_ret (lc_rule A (own := [("_law_k", 6)]) (fi_range1 A (A.no T.m_range) (fl_cons ((fe_var A (i := 1) rfl rfl).toP) fl_nil)) (by decide +kernel) (by decide) (fun _ A' => fg_name A' (i := 6) rfl rfl) (fun _ A' => fts_nil) (fun _ A' => (fe_add (fe_add (fe_slice (fe_var A' (i := 3) rfl rfl) fo_none (fo_some (fe_var A' (i := 4) rfl rfl))) (fe_ix A' (fe_var A' (i := 2) rfl rfl) (fe_mod (fe_add (fe_var A' (i := 5) rfl rfl) (fe_mul fe_int (fe_var A' (i := 6) rfl rfl))) fe_int))) (fe_slice (fe_var A' (i := 3) rfl rfl) (fo_some (fe_var A' (i := 4) rfl rfl)) fo_none)).toP)))))))
theorem k_law_words {Z : Wd} (T : Tops Z) : Known Z 2 "_law_words" [] f_law_words := T.t_law_words.known (d_law_words T)
abbrev n_law_told : List Str := ["_law_state_here", "_law_ids", "_law_many", "_law_odd", "_law_signs", "_law_holes", "_law_left", "_law_names", "_law_k", "_law_some"]
theorem sc_law_told : FnScope n_law_told ["_law_state_here", "_law_ids", "_law_many", "_law_odd", "_law_signs", "_law_holes"] (defScope s_law_told) := ⟨rfl, rfl, rfl, by decide +kernel, rfl, by decide +kernel, by decide +kernel⟩
set_option maxHeartbeats 4000000 in
theorem d_law_told {Z : Wd} (T : Tops Z) : ∀ f fd, Fun Z.K "_law_told" "_law_told" s_law_told f fd → FnOk Z.P Z.w Z.K Z.mg Z.base (L2.CX Z.P Z.w) (1 + 1) f fd ["_law_state_here", "_law_ids", "_law_many", "_law_odd", "_law_signs", "_law_holes"] (spOf Z.K Z.mg (runDef 6 10 (b_law_told))) := fun f fd F =>
  def_ok F sc_law_told fun X E W A => fss_cons (fs_own A (i := 6) rfl rfl (fe_list A T.m_list (fe_var A (i := 1) rfl rfl))) (fss_cons (fs_own A (i := 7) rfl rfl (fe_lst fl_nil)) (fss_cons (fs_for A [8] (fi_range1 A (A.no T.m_range) (fl_cons ((fe_var A (i := 2) rfl rfl).toP) fl_nil)) srcR1_ns (fg_name A (i := 8) rfl rfl) (fss_one (fs_exp (fe_append (fe_var A (i := 7) rfl rfl) ((fe_tup (fl_cons fe_str.toP (fl_cons ((fe_popAt (fe_var A (i := 6) rfl rfl) (fe_call A ((k_law_next T).mono (by decide)) (fl_cons ((fe_var A (i := 0) rfl rfl).toP) (fl_cons ((fe_len A T.m_len (fe_var A (i := 6) rfl rfl)).toP) fl_nil)))).toP) fl_nil))).toP))))) (fss_cons (fs_if ((fw_and (ft_eq A (fe_var A (i := 3) rfl rfl) fe_int) (fw_and1 (ft_gt (fe_var A (i := 2) rfl rfl) fe_int))).ft) (fss_one (fs_sub A ((fe_ix A (fe_var A (i := 7) rfl rfl) (fe_neg fe_int)).toP) (fe_var A (i := 7) rfl rfl) (fe_call A ((k_law_next T).mono (by decide)) (fl_cons ((fe_var A (i := 0) rfl rfl).toP) (fl_cons ((fe_sub (fe_var A (i := 2) rfl rfl) fe_int).toP) fl_nil))) (fun hz => pg_sub (fe_var A (i := 7) rfl rfl).pe (fe_call A ((k_law_next T).mono (by decide)) (fl_cons ((fe_var A (i := 0) rfl rfl).toP) (fl_cons ((fe_sub (fe_var A (i := 2) rfl rfl) fe_int).toP) fl_nil))).pe hz))) fss_nil) (fss_cons (fs_if ((fw_and (ft_eq A (fe_var A (i := 3) rfl rfl) fe_int) (fw_and1 (ft_gt (fe_var A (i := 2) rfl rfl) fe_int))).ft) (fss_cons (fs_set A (i := 9) rfl rfl ((fe_lst (fl_cons ((fe_tup (fl_cons fe_str.toP (fl_cons ((fe_ix A (fe_var A (i := 4) rfl rfl) fe_int).toP) (fl_cons ((fe_lst fl_nil).toP) fl_nil)))).toP) (fl_cons ((fe_tup (fl_cons fe_str.toP (fl_cons ((fe_ix A (fe_var A (i := 5) rfl rfl) fe_int).toP) (fl_cons ((fe_lst fl_nil).toP) fl_nil)))).toP) (fl_cons ((fe_tup (fl_cons fe_str.toP (fl_cons ((fe_ix A (fe_var A (i := 4) rfl rfl) fe_int).toP) (fl_cons ((fe_lst (fl_cons ((fe_tup (fl_cons ((fe_lst fl_nil).toP) (fl_cons ((fe_ix A (fe_var A (i := 7) rfl rfl) fe_int).toP) fl_nil))).toP) fl_nil)).toP) fl_nil)))).toP) fl_nil)))).toP)) (fss_one (fs_sub A ((fe_ix A (fe_var A (i := 9) rfl rfl) (fe_call A ((k_law_next T).mono (by decide)) (fl_cons ((fe_var A (i := 0) rfl rfl).toP) (fl_cons fe_int.toP fl_nil)))).toP) (fe_var A (i := 7) rfl rfl) (fe_call A ((k_law_next T).mono (by decide)) (fl_cons ((fe_var A (i := 0) rfl rfl).toP) (fl_cons ((fe_var A (i := 2) rfl rfl).toP) fl_nil))) (fun hz => pg_sub (fe_var A (i := 7) rfl rfl).pe (fe_call A ((k_law_next T).mono (by decide)) (fl_cons ((fe_var A (i := 0) rfl rfl).toP) (fl_cons ((fe_var A (i := 2) rfl rfl).toP) fl_nil))).pe hz)))) fss_nil) (fss_one (fs_ret (fe_var A (i := 7) rfl rfl)))))))
theorem k_law_told {Z : Wd} (T : Tops Z) : Known Z 2 "_law_told" [] f_law_told := T.t_law_told.known (d_law_told T)
abbrev n_law_mostly : List Str := ["_law_state_here", "_law_ids", "_law_deep", "_law_signs", "_law_holes", "_law_kind", "_law_parts", "_law_many", "_law_word", "_law_k", "_law_inner"]
theorem sc_law_mostly : FnScope n_law_mostly ["_law_state_here", "_law_ids", "_law_deep", "_law_signs", "_law_holes"] (defScope s_law_mostly) := ⟨rfl, rfl, rfl, by decide +kernel, rfl, by decide +kernel, by decide +kernel⟩
set_option maxHeartbeats 4000000 in
theorem d_law_mostly {Z : Wd} {k : Nat} (T : Tops Z) {r_law_mostly : Fn} (K_law_mostly : Known Z k "_law_mostly" [] r_law_mostly) (hk : 2 ≤ k) : ∀ f fd, Fun Z.K "_law_mostly" "_law_mostly" s_law_mostly f fd → FnOk Z.P Z.w Z.K Z.mg Z.base (L2.CX Z.P Z.w) (k + 1) f fd ["_law_state_here", "_law_ids", "_law_deep", "_law_signs", "_law_holes"] (spOf Z.K Z.mg (runDef 5 11 (b_law_mostly r_law_mostly))) := fun f fd F =>
  def_ok F sc_law_mostly fun X E W A => fss_cons (fs_set A (i := 5) rfl rfl ((fe_call A ((k_law_next T).mono (Nat.le_trans (by decide) hk)) (fl_cons ((fe_var A (i := 0) rfl rfl).toP) (fl_cons fe_int.toP fl_nil))).toP)) (fss_cons (fs_if ((fw_or (ft_lt (fe_var A (i := 5) rfl rfl) fe_int) (fw_or1 ((fw_and (ft_eq A (fe_var A (i := 2) rfl rfl) fe_int) (fw_and1 (ft_lt (fe_var A (i := 5) rfl rfl) fe_int))).ft))).ft) (fss_cons (fs_set A (i := 7) rfl rfl ((fe_call A ((k_law_next T).mono (Nat.le_trans (by decide) hk)) (fl_cons ((fe_var A (i := 0) rfl rfl).toP) (fl_cons ((fe_add (fe_min2 A T.m_min (fe_len A T.m_len (fe_var A (i := 1) rfl rfl)) fe_int) fe_int).toP) fl_nil))).toP)) (fss_cons (fs_set A (i := 8) rfl rfl ((fe_ix A (fe_var A (i := 4) rfl rfl) (fe_add (fe_mul fe_int (fe_var A (i := 7) rfl rfl)) (fe_call A ((k_law_next T).mono (Nat.le_trans (by decide) hk)) (fl_cons ((fe_var A (i := 0) rfl rfl).toP) (fl_cons fe_int.toP fl_nil))))).toP)) (fss_one (fs_ret (fe_tup (fl_cons fe_str.toP (fl_cons ((fe_var A (i := 8) rfl rfl).toP) (fl_cons ((fe_call A ((k_law_told T).mono (Nat.le_trans (by decide) hk)) (fl_cons ((fe_var A (i := 0) rfl rfl).toP) (fl_cons ((fe_var A (i := 1) rfl rfl).toP) (fl_cons ((fe_var A (i := 7) rfl rfl).toP) (fl_cons ((fe_call A ((k_law_next T).mono (Nat.le_trans (by decide) hk)) (fl_cons ((fe_var A (i := 0) rfl rfl).toP) (fl_cons fe_int.toP fl_nil))).toP) (fl_cons ((fe_var A (i := 3) rfl rfl).toP) (fl_cons ((fe_var A (i := 4) rfl rfl).toP) fl_nil))))))).toP) fl_nil)))))))) fss_nil) (fss_cons (fs_if ((fw_and (ft_eq A (fe_var A (i := 5) rfl rfl) fe_int) (fw_and1 (ft_ne A (fe_var A (i := 1) rfl rfl) (fe_lst fl_nil)))).ft) (fss_one (fs_ret (fe_tup (fl_cons fe_str.toP (fl_cons ((fe_ix A (fe_var A (i := 1) rfl rfl) (fe_call A ((k_law_next T).mono (Nat.le_trans (by decide) hk)) (fl_cons ((fe_var A (i := 0) rfl rfl).toP) (fl_cons ((fe_len A T.m_len (fe_var A (i := 1) rfl rfl)).toP) fl_nil)))).toP) fl_nil))))) fss_nil) (fss_cons (fs_own A (i := 6) rfl rfl (fe_lst fl_nil)) (fss_cons (fs_if (ft_gt (fe_var A (i := 2) rfl rfl) fe_int) (fss_one (fs_for A [9, 10] (fi_range1 A (A.no T.m_range) (fl_cons ((fe_call A ((k_law_next T).mono (Nat.le_trans (by decide) hk)) (fl_cons ((fe_var A (i := 0) rfl rfl).toP) (fl_cons fe_int.toP fl_nil))).toP) fl_nil)) srcR1_ns (fg_name A (i := 9) rfl rfl) (fss_cons (fs_set A (i := 10) rfl rfl ((fe_call A ((k_law_fresh T).mono (Nat.le_trans (by decide) hk)) (fl_cons ((fe_var A (i := 0) rfl rfl).toP) (fl_cons ((fe_ix A (fe_lst (fl_cons fe_int.toP (fl_cons fe_int.toP (fl_cons fe_int.toP (fl_cons fe_int.toP fl_nil))))) (fe_call A ((k_law_next T).mono (Nat.le_trans (by decide) hk)) (fl_cons ((fe_var A (i := 0) rfl rfl).toP) (fl_cons fe_int.toP fl_nil)))).toP) fl_nil))).toP)) (fss_one (fs_exp (fe_append (fe_var A (i := 6) rfl rfl) ((fe_tup (fl_cons ((fe_var A (i := 10) rfl rfl).toP) (fl_cons ((fe_call A K_law_mostly (fl_cons ((fe_var A (i := 0) rfl rfl).toP) (fl_cons ((fe_add (fe_var A (i := 1) rfl rfl) (fe_var A (i := 10) rfl rfl)).toP) (fl_cons ((fe_sub (fe_var A (i := 2) rfl rfl) fe_int).toP) (fl_cons ((fe_var A (i := 3) rfl rfl).toP) (fl_cons ((fe_var A (i := 4) rfl rfl).toP) fl_nil)))))).toP) fl_nil))).toP))))))) fss_nil) (fss_one (fs_ret (fe_tup (fl_cons fe_str.toP (fl_cons ((fe_ix A (fe_var A (i := 3) rfl rfl) (fe_call A ((k_law_next T).mono (Nat.le_trans (by decide) hk)) (fl_cons ((fe_var A (i := 0) rfl rfl).toP) (fl_cons ((fe_len A T.m_len (fe_var A (i := 3) rfl rfl)).toP) fl_nil)))).toP) (fl_cons ((fe_var A (i := 6) rfl rfl).toP) fl_nil))))))))))
theorem ks_law_mostly {Z : Wd} (T : Tops Z) : ∀ n : Nat, Known Z (2 + n) "_law_mostly" [] (f_law_mostly n)
  | 0 => T.t_law_mostly.none
  | n + 1 => by
    have ih := ks_law_mostly T n
    exact T.t_law_mostly.known (d_law_mostly T ih (Nat.le_add_right _ n))
theorem k_law_mostly {Z : Wd} (T : Tops Z) : Known Z 7 "_law_mostly" [] (f_law_mostly 5) := (ks_law_mostly T 5)
abbrev n_law_term : List Str := ["_law_drawn", "_law_env", "_law_spot", "_law_one", "_law_inner", "_law_part"]
theorem sc_law_term : FnScope n_law_term ["_law_drawn", "_law_env"] (defScope s_law_term) := ⟨rfl, rfl, rfl, by decide +kernel, rfl, by decide +kernel, by decide +kernel⟩
set_option maxHeartbeats 4000000 in
theorem d_law_term {Z : Wd} {k : Nat} (T : Tops Z) {r_law_term : Fn} (K_law_term : Known Z k "_law_term" [] r_law_term) (hk : 0 ≤ k) : ∀ f fd, Fun Z.K "_law_term" "_law_term" s_law_term f fd → FnOk Z.P Z.w Z.K Z.mg Z.base (L2.CX Z.P Z.w) (k + 1) f fd ["_law_drawn", "_law_env"] (spOf Z.K Z.mg (runDef 2 6 (b_law_term r_law_term))) := fun f fd F =>
  def_ok F sc_law_term fun X E W A => fss_cons (fs_if (ft_eq A (fe_ix A (fe_var A (i := 0) rfl rfl) fe_int) fe_str) (fss_cons (fs_set A (i := 2) rfl rfl ((fe_sub (fe_len A T.m_len (fe_var A (i := 1) rfl rfl)) fe_int).toP)) (fss_cons (fs_while A [] 100000000 (ft_ne A (fe_ix A (fe_var A (i := 1) rfl rfl) (fe_var A (i := 2) rfl rfl)) (fe_ix A (fe_var A (i := 0) rfl rfl) fe_int)) (fss_one (fs_set A (i := 2) rfl rfl ((fe_sub (fe_var A (i := 2) rfl rfl) fe_int).toP)))) (fss_one (fs_ret (fe_tup (fl_cons fe_str.toP (fl_cons ((fe_sub (fe_sub (fe_len A T.m_len (fe_var A (i := 1) rfl rfl)) fe_int) (fe_var A (i := 2) rfl rfl)).toP) fl_nil))))))) fss_nil) (fss_cons (fs_if (ft_eq A (fe_ix A (fe_var A (i := 0) rfl rfl) fe_int) fe_str) (fss_one (fs_ret (fe_tup (fl_cons fe_str.toP (fl_cons ((fe_ix A (fe_var A (i := 0) rfl rfl) fe_int).toP) (fl_cons ((fe_tuple A T.m_tuple (lc_rule A (own := [("_law_inner", 4), ("_law_part", 5)]) (fi_of (fe_ix A (fe_var A (i := 0) rfl rfl) fe_int)) (by decide +kernel) (by decide) (fun _ A' => fg_tup A' (fgs_cons (fg_name A' (i := 4) rfl rfl) (fgs_cons (fg_name A' (i := 5) rfl rfl) fgs_nil))) (fun _ A' => fts_nil) (fun _ A' => (fe_tup (fl_cons ((fe_len A' T.m_len (fe_var A' (i := 4) rfl rfl)).toP) (fl_cons ((fe_call A' K_law_term (fl_cons ((fe_var A' (i := 5) rfl rfl).toP) (fl_cons ((fe_add (fe_var A' (i := 1) rfl rfl) (fe_var A' (i := 4) rfl rfl)).toP) fl_nil))).toP) fl_nil))).toP))).toP) fl_nil)))))) fss_nil) (fss_one (fs_ret (fe_tup (fl_cons fe_str.toP (fl_cons ((fe_ix A (fe_var A (i := 0) rfl rfl) fe_int).toP) (fl_cons ((fe_tuple A T.m_tuple (lc_rule A (own := [("_law_one", 3)]) (fi_of (fe_ix A (fe_var A (i := 0) rfl rfl) fe_int)) (by decide +kernel) (by decide) (fun _ A' => fg_name A' (i := 3) rfl rfl) (fun _ A' => fts_nil) (fun _ A' => (fe_call A' K_law_term (fl_cons ((fe_var A' (i := 3) rfl rfl).toP) (fl_cons ((fe_var A' (i := 1) rfl rfl).toP) fl_nil))).toP))).toP) fl_nil)))))))
theorem ks_law_term {Z : Wd} (T : Tops Z) : ∀ n : Nat, Known Z (0 + n) "_law_term" [] (f_law_term n)
  | 0 => T.t_law_term.none
  | n + 1 => by
    have ih := ks_law_term T n
    exact T.t_law_term.known (d_law_term T ih (Nat.le_add_right _ n))
theorem k_law_term {Z : Wd} (T : Tops Z) : Known Z 12 "_law_term" [] (f_law_term 12) := (ks_law_term T 12)
abbrev n_law_due : List Str := ["_law_term_here", "_law_numbers", "_law_one"]
theorem sc_law_due : FnScope n_law_due ["_law_term_here"] (defScope s_law_due) := ⟨rfl, rfl, rfl, by decide +kernel, rfl, by decide +kernel, by decide +kernel⟩
set_option maxHeartbeats 4000000 in
theorem d_law_due {Z : Wd} (T : Tops Z) : ∀ f fd, Fun Z.K "_law_due" "_law_due" s_law_due f fd → FnOk Z.P Z.w Z.K Z.mg Z.base (L2.CX Z.P Z.w) (0 + 1) f fd ["_law_term_here"] (spOf Z.K Z.mg (runDef 1 3 (b_law_due))) := fun f fd F =>
  def_ok F sc_law_due fun X E W A => fss_cons (fs_if (ft_ne A (fe_ix A (fe_var A (i := 0) rfl rfl) fe_int) fe_str) (fss_one (fs_ret fe_non)) fss_nil) (fss_cons (fs_own A (i := 1) rfl rfl (fe_lst fl_nil)) (fss_cons (fs_for A [2] (fi_of ((fe_ix A (fe_var A (i := 0) rfl rfl) fe_int).toP).fe) srcP_ns (fg_name A (i := 2) rfl rfl) (fss_cons (fs_if (ft_ne A (fe_ix A (fe_var A (i := 2) rfl rfl) fe_int) fe_str) (fss_one (fs_ret fe_non)) fss_nil) (fss_one (fs_exp (fe_append (fe_var A (i := 1) rfl rfl) ((fe_ix A (fe_var A (i := 2) rfl rfl) fe_int).toP)))))) (fss_cons (fs_if (ft_lt (fe_lenSet A T.m_len T.m_set (fe_var A (i := 1) rfl rfl)) (fe_len A T.m_len (fe_var A (i := 1) rfl rfl))) (fss_one (fs_ret fe_non)) fss_nil) (fss_one (fs_ret (fe_tuple A T.m_tuple (fe_var A (i := 1) rfl rfl)))))))
theorem k_law_due {Z : Wd} (T : Tops Z) : Known Z 1 "_law_due" [] f_law_due := T.t_law_due.known (d_law_due T)
abbrev n_law_right : List Str := ["_law_found", "_law_due_here", "_law_number"]
theorem sc_law_right : FnScope n_law_right ["_law_found", "_law_due_here"] (defScope s_law_right) := ⟨rfl, rfl, rfl, by decide +kernel, rfl, by decide +kernel, by decide +kernel⟩
set_option maxHeartbeats 4000000 in
theorem d_law_right {Z : Wd} (T : Tops Z) : ∀ f fd, Fun Z.K "_law_right" "_law_right" s_law_right f fd → FnOk Z.P Z.w Z.K Z.mg Z.base (L2.CX Z.P Z.w) (0 + 1) f fd ["_law_found", "_law_due_here"] (spOf Z.K Z.mg (runDef 2 3 (b_law_right))) := fun f fd F =>
  def_ok F sc_law_right fun X E W A => fss_cons (fs_if ((fw_or (ft_isN (fe_var A (i := 1) rfl rfl)) (fw_or1 (ft_isN (fe_var A (i := 0) rfl rfl)))).ft) (fss_one (fs_ret (fe_and (fe_isN (fe_var A (i := 0) rfl rfl)) (fe_one (fe_isN (fe_var A (i := 1) rfl rfl)))))) fss_nil) (fss_cons (fs_if ((fw_or (ft_not (ft_val (fe_isi A T.m_isinstance T.m_tuple boot_ttuple (fe_var A (i := 0) rfl rfl)))) (fw_or1 (ft_ne A (fe_var A (i := 0) rfl rfl) (fe_var A (i := 1) rfl rfl)))).ft) (fss_one (fs_ret fe_bl)) fss_nil) (fss_one (fs_ret (fe_all A T.m_all (lc_rule A (own := [("_law_number", 2)]) (fi_of (fe_var A (i := 0) rfl rfl)) (by decide +kernel) (by decide) (fun _ A' => fg_name A' (i := 2) rfl rfl) (fun _ A' => fts_nil) (fun _ A' => (fe_and (fe_isi A' T.m_isinstance T.m_int boot_tint (fe_var A' (i := 2) rfl rfl)) (fe_one (fe_not (fe_isi A' T.m_isinstance T.m_bool boot_tbool (fe_var A' (i := 2) rfl rfl))))).toP))))))
theorem k_law_right {Z : Wd} (T : Tops Z) : Known Z 1 "_law_right" [] f_law_right := T.t_law_right.known (d_law_right T)
abbrev n_law_within : List Str := ["_law_term_here", "_law_some", "_law_inner", "_law_one", "_law_many", "_law_part"]
theorem sc_law_within : FnScope n_law_within ["_law_term_here"] (defScope s_law_within) := ⟨rfl, rfl, rfl, by decide +kernel, rfl, by decide +kernel, by decide +kernel⟩
set_option maxHeartbeats 4000000 in
theorem d_law_within {Z : Wd} {k : Nat} (T : Tops Z) {r_law_within : Fn} (K_law_within : Known Z k "_law_within" [] r_law_within) (hk : 0 ≤ k) : ∀ f fd, Fun Z.K "_law_within" "_law_within" s_law_within f fd → FnOk Z.P Z.w Z.K Z.mg Z.base (L2.CX Z.P Z.w) (k + 1) f fd ["_law_term_here"] (spOf Z.K Z.mg (runDef 1 6 (b_law_within r_law_within))) := fun f fd F =>
  def_ok F sc_law_within fun X E W A => fss_cons (fs_set A (i := 1) rfl rfl ((fe_lst (fl_cons ((fe_var A (i := 0) rfl rfl).toP) fl_nil)).toP)) (fss_cons (fs_set A (i := 2) rfl rfl ((fe_lst fl_nil).toP)) (fss_cons (fs_if (ft_eq A (fe_ix A (fe_var A (i := 0) rfl rfl) fe_int) fe_str) (fss_one (fs_lcSet A (i := 2) [("_law_many", 4), ("_law_part", 5)] rfl rfl rfl (by decide +kernel) rfl (fi_of (fe_ix A (fe_var A (i := 0) rfl rfl) fe_int)) (by decide +kernel) (by decide) (fun _ A' => fg_tup A' (fgs_cons (fg_name A' (i := 4) rfl rfl) (fgs_cons (fg_name A' (i := 5) rfl rfl) fgs_nil))) (fun _ A' => fts_nil) (fun _ A' => (fe_var A' (i := 5) rfl rfl).toP))) fss_nil) (fss_cons (fs_if (ft_eq A (fe_ix A (fe_var A (i := 0) rfl rfl) fe_int) fe_str) (fss_one (fs_set A (i := 2) rfl rfl ((fe_list A T.m_list (fe_ix A (fe_var A (i := 0) rfl rfl) fe_int)).toP))) fss_nil) (fss_cons (fs_for A [3] (fi_of ((fe_var A (i := 2) rfl rfl).toP).fe) srcP_ns (fg_name A (i := 3) rfl rfl) (fss_one (fs_set A (i := 1) rfl rfl ((fe_add (fe_var A (i := 1) rfl rfl) (fe_call A K_law_within (fl_cons ((fe_var A (i := 3) rfl rfl).toP) fl_nil))).toP)))) (fss_one (fs_ret (fe_var A (i := 1) rfl rfl)))))))
theorem ks_law_within {Z : Wd} (T : Tops Z) : ∀ n : Nat, Known Z (0 + n) "_law_within" [] (f_law_within n)
  | 0 => T.t_law_within.none
  | n + 1 => by
    have ih := ks_law_within T n
    exact T.t_law_within.known (d_law_within T ih (Nat.le_add_right _ n))
theorem k_law_within {Z : Wd} (T : Tops Z) : Known Z 12 "_law_within" [] (f_law_within 12) := (ks_law_within T 12)
abbrev n_law_good : List Str := ["_law_cell", "_law_k", "_law_state_here", "_law_words_here", "_law_scope", "_law_term_here", "_law_some", "_law_holes", "_law_found", "_law_one"]
theorem sc_law_good : FnScope n_law_good ["_law_cell", "_law_k"] (defScope s_law_good) := ⟨rfl, rfl, rfl, by decide +kernel, rfl, by decide +kernel, by decide +kernel⟩
set_option maxHeartbeats 4000000 in
theorem d_law_good {Z : Wd} (T : Tops Z) : ∀ f fd, Fun Z.K "_law_good" "_law_good" s_law_good f fd → FnOk Z.P Z.w Z.K Z.mg Z.base (L2.CX Z.P Z.w) (13 + 1) f fd ["_law_cell", "_law_k"] (spOf Z.K Z.mg (runDef 2 10 (b_law_good))) := fun f fd F =>
  def_ok F sc_law_good fun X E W A => fss_cons (fs_cell A (i := 2) rfl rfl (fe_call A ((k_law_state T).mono (by decide)) (fl_cons ((fe_var A (i := 0) rfl rfl).toP) (fl_cons ((fe_var A (i := 1) rfl rfl).toP) fl_nil)))) (fss_cons (fs_set A (i := 3) rfl rfl ((fe_call A ((k_law_words T).mono (by decide)) (fl_cons ((fe_var A (i := 2) rfl rfl).toP) (fl_cons fe_int.toP fl_nil))).toP)) (fss_cons (fs_set A (i := 4) rfl rfl ((fe_call A ((k_law_fresh T).mono (by decide)) (fl_cons ((fe_var A (i := 2) rfl rfl).toP) (fl_cons ((fe_call A ((k_law_next T).mono (by decide)) (fl_cons ((fe_var A (i := 2) rfl rfl).toP) (fl_cons fe_int.toP fl_nil))).toP) fl_nil))).toP)) (fss_cons (fs_set A (i := 5) rfl rfl ((fe_call A ((k_law_term T).mono (by decide)) (fl_cons ((fe_call A ((k_law_mostly T).mono (by decide)) (fl_cons ((fe_var A (i := 2) rfl rfl).toP) (fl_cons ((fe_var A (i := 4) rfl rfl).toP) (fl_cons fe_int.toP (fl_cons ((fe_slice (fe_var A (i := 3) rfl rfl) fo_none (fo_some fe_int)).toP) (fl_cons ((fe_slice (fe_var A (i := 3) rfl rfl) (fo_some fe_int) fo_none).toP) fl_nil)))))).toP) (fl_cons ((fe_var A (i := 4) rfl rfl).toP) fl_nil))).toP)) (fss_cons (fs_set A (i := 6) rfl rfl ((fe_call A ((k_law_within T).mono (by decide)) (fl_cons ((fe_var A (i := 5) rfl rfl).toP) fl_nil)).toP)) (fss_cons (fs_lcSet A (i := 7) [("_law_one", 9)] rfl rfl rfl (by decide +kernel) rfl (fi_of (fe_var A (i := 6) rfl rfl)) (by decide +kernel) (by decide) (fun _ A' => fg_name A' (i := 9) rfl rfl) (fun _ A' => fts_one (ft_eq A' (fe_ix A' (fe_var A' (i := 9) rfl rfl) fe_int) fe_str)) (fun _ A' => (fe_var A' (i := 9) rfl rfl).toP)) (fss_cons (fs_set A (i := 8) rfl rfl ((fe_call A ((k_is_straight T).mono (by decide)) (fl_cons ((fe_var A (i := 5) rfl rfl).toP) fl_nil)).toP)) (fss_cons (fs_if ((fw_or (ft_not (ft_val (fe_isi A T.m_isinstance T.m_bool boot_tbool (fe_var A (i := 8) rfl rfl)))) (fw_or1 (ft_ne A (fe_var A (i := 8) rfl rfl) (fe_all A T.m_all (lc_rule A (own := [("_law_one", 9)]) (fi_of (fe_var A (i := 7) rfl rfl)) (by decide +kernel) (by decide) (fun _ A' => fg_name A' (i := 9) rfl rfl) (fun _ A' => fts_nil) (fun _ A' => (fe_notN (fe_call A' ((k_law_due T).mono (by decide)) (fl_cons ((fe_var A' (i := 9) rfl rfl).toP) fl_nil))).toP)))))).ft) (fss_one (fs_ret fe_bl)) fss_nil) (fss_one (fs_ret (fe_all A T.m_all (lc_rule A (own := [("_law_one", 9)]) (fi_of (fe_var A (i := 6) rfl rfl)) (by decide +kernel) (by decide) (fun _ A' => fg_name A' (i := 9) rfl rfl) (fun _ A' => fts_nil) (fun _ A' => (fe_call A' ((k_law_right T).mono (by decide)) (fl_cons ((fe_call A' ((k_told_names T).mono (by decide)) (fl_cons ((fe_var A' (i := 9) rfl rfl).toP) fl_nil)).toP) (fl_cons ((fe_call A' ((k_law_due T).mono (by decide)) (fl_cons ((fe_var A' (i := 9) rfl rfl).toP) fl_nil)).toP) fl_nil))).toP))))))))))))
theorem k_law_good {Z : Wd} (T : Tops Z) : Known Z 14 "_law_good" [] f_law_good := T.t_law_good.known (d_law_good T)
abbrev n_law : List Str := ["_law_script", "_law_k", "_law_cell"]
theorem sc_law : FnScope n_law ["_law_script"] (defScope s_law) := ⟨rfl, rfl, rfl, by decide +kernel, rfl, by decide +kernel, by decide +kernel⟩
set_option maxHeartbeats 4000000 in
theorem d_law {Z : Wd} (T : Tops Z) : ∀ f fd, Fun Z.K "law" "law" s_law f fd → FnOk Z.P Z.w Z.K Z.mg Z.base (L2.CX Z.P Z.w) (14 + 1) f fd ["_law_script"] (spOf Z.K Z.mg (runDef 1 3 (b_law))) := fun f fd F =>
  def_ok F sc_law fun X E W A => fss_cons (fs_for A [1, 2] (fi_enum A (A.no T.m_enumerate) (fe_add (fe_lst (fl_cons fe_int.toP fl_nil)) (fe_slice (fe_var A (i := 0) rfl rfl) fo_none (fo_some fe_int)))) srcEn_ns (fg_tup A (fgs_cons (fg_name A (i := 1) rfl rfl) (fgs_cons (fg_name A (i := 2) rfl rfl) fgs_nil))) (fss_one (fs_if (ft_not (ft_val (fe_call A ((k_law_good T).mono (by decide)) (fl_cons ((fe_var A (i := 2) rfl rfl).toP) (fl_cons ((fe_var A (i := 1) rfl rfl).toP) fl_nil))))) (fss_one (fs_ret fe_bl)) fss_nil))) (fss_one (fs_ret fe_bl))
theorem k_law {Z : Wd} (T : Tops Z) : Known Z 15 "law" [] f_law := T.t_law.known (d_law T)
end HF

end
section
set_option Elab.async false
set_option linter.all false
set_option maxRecDepth 20000
set_option autoImplicit false
namespace HF
open PySem PySem.Spec PyProof.Rows L2
/-! the state from which terms are drawn -/
structure Ds where
  n : Int
  i : Int
  b : Bool
def stP (d : Ds) : PO := .lst [.int d.n, .int d.i, .bl d.b]
def hp (h : List PO) (r : Nat) (d : Ds) : List PO := h.set r (stP d)
theorem hp_get {h : List PO} {r : Nat} (lt : r < h.length) (d : Ds) : (hp h r d)[r]? = some (stP d) := by unfold hp; rw [List.getElem?_set_self lt]
theorem hp_hp (h : List PO) (r : Nat) (d d' : Ds) : (hp h r d).set r (stP d') = hp h r d' := by unfold hp; rw [List.set_set]
def nextN (d : Ds) : Int := (d.n * 3360675291 + 2147483629) % 2305843009213693951
def nextV (d : Ds) (m : Int) : Int := if d.b = true then d.n % m else nextN d / 1048583 % m
def nextD (d : Ds) (m : Int) : Ds := if d.b = true then ⟨d.n / m, d.i, d.b⟩ else ⟨nextN d, d.i, d.b⟩
theorem nextV_lo (d : Ds) {m : Int} (h : 0 < m) : 0 ≤ nextV d m := by unfold nextV; split <;> exact Int.emod_nonneg _ (by omega)
theorem nextV_hi (d : Ds) {m : Int} (h : 0 < m) : nextV d m < m := by unfold nextV; split <;> exact Int.emod_lt_of_pos _ h
theorem nextD_i (d : Ds) (m : Int) : (nextD d m).i = d.i := by unfold nextD; split <;> rfl
theorem next_ok {h : List PO} {r : Nat} (lt : r < h.length) (d : Ds) (m : Int) (h1 : 0 < m) (h2 : m < 1073741824) : f_law_next [.ref r, .int m] (hp h r d) = .ok (.v (.int (nextV d m))) (hp h r (nextD d m)) := by
  obtain ⟨n, i, b⟩ := d
  have e1 := hp_get lt ⟨n, i, b⟩
  have e2 := hp_get lt ⟨nextN ⟨n, i, false⟩, i, false⟩
  have e3 := hp_hp h r ⟨n, i, b⟩ ⟨n / m, i, b⟩
  have e4 := hp_hp h r ⟨n, i, b⟩ ⟨nextN ⟨n, i, false⟩, i, b⟩
  unfold stP at e1 e2 e3 e4
  unfold f_law_next runDef b_law_next nextV nextD
  cases b with
  | true =>
    simp at e1 e3
    simp [e1, e3, atI_0, atI_1, atI_2, h1, h2, ixN]
  | false =>
    simp [nextN] at e1 e2 e4
    simp [e1, e2, e4, atI_0, atI_1, atI_2, h1, h2, ixN, nextN]
end HF

end
section
set_option Elab.async false
set_option linter.all false
set_option maxRecDepth 20000
set_option autoImplicit false
namespace HF
open PySem PySem.Spec PyProof.Rows L2
theorem hp_set {h : List PO} {r : Nat} (d : Ds) (a b : Int) (c : Bool) : (hp h r d).set r (.lst [.int a, .int b, .bl c]) = hp h r ⟨a, b, c⟩ := hp_hp h r d ⟨a, b, c⟩
def freshL (i : Int) (m : Nat) : List Int := (List.range m).map fun (j : Nat) => i + 1 + (j : Int)
theorem fresh_ok {h : List PO} {r : Nat} (lt : r < h.length) (d : Ds) (m : Nat) (hm : m ≤ 1000) : f_law_fresh [.ref r, .int m] (hp h r d) = .ok (.fr (.lst ((freshL d.i m).map .int))) (hp h r ⟨d.n, d.i + m, d.b⟩) := by
  have key : forL (.v .non) ((List.range m).map fun i : Nat => .int (i : Int)) (.nm 3) b_law_fresh_1 [3] ((List.range m).map fun i : Nat => .int (i : Int)) ⟨[some (.v (.ref r)), some (.v (.int m)), some (.own (.lst [])), none], hp h r d⟩ =
      .nx ⟨[some (.v (.ref r)), some (.v (.int m)), some (.own (.lst ((freshL d.i m).map .int))), none], hp h r ⟨d.n, d.i + m, d.b⟩⟩ := by
    refine forL_inv (e := .v .non) (k := fun i : Nat => PV.int (i : Int)) (I := fun ys M => ∃ j : Nat, j + ys.length = m ∧ M = ⟨[some (.v (.ref r)), some (.v (.int m)), some (.own (.lst ((freshL d.i j).map .int))), none], hp h r ⟨d.n, d.i + j, d.b⟩⟩)
      (Q := fun z => z = .nx ⟨[some (.v (.ref r)), some (.v (.int m)), some (.own (.lst ((freshL d.i m).map .int))), none], hp h r ⟨d.n, d.i + m, d.b⟩⟩) ?_ ?_ _ _ ⟨0, by simp, by simp [freshL]⟩
    · rintro y ys M ⟨j, hj, rfl⟩
      refine ⟨trivial, .inl ⟨_, ?_, j + 1, by simp at hj ⊢; omega, rfl⟩⟩
      have e1 := hp_get lt ⟨d.n, d.i + j, d.b⟩
      have e2 := hp_get lt ⟨d.n, d.i + j + 1, d.b⟩
      have g : (freshL d.i j).length < sizeLine := by rw [sizeLine_val, freshL]; simp at hj ⊢; omega
      have e3 : (freshL d.i (j + 1)) = freshL d.i j ++ [d.i + j + 1] := by
        unfold freshL; rw [List.range_succ, List.map_append]; simp; omega
      have e4 : d.i + ((j : Int) + 1) = d.i + j + 1 := by omega
      unfold stP at e1 e2
      simp at e1 e2
      unfold b_law_fresh_1
      simp [e1, e2, atI_1, hp_set, g, ixN, e3, e4]
    · rintro M ⟨j, hj, rfl⟩
      simp at hj; subst hj
      exact ⟨trivial, rfl⟩
  have g1 : m < 4611686018427387904 := by omega
  have g2 : m ≤ sizeLine := by rw [sizeLine_val]; omega
  unfold f_law_fresh runDef b_law_fresh
  simp [g1, g2]
  rw [key]
  simp
/-! words -/
theorem cutP_take {α : Type} (xs : List α) (k : Nat) : cutP xs none (some (k : Int)) = xs.take k := by
  unfold cutP
  rw [HT.sIx_nat, HT.sIx_none, List.drop_zero, Nat.sub_zero]
  by_cases h : k ≤ xs.length
  · rw [Nat.min_eq_left h]
  · rw [Nat.min_eq_right (by omega), List.take_of_length_le (by omega), List.take_of_length_le (by omega)]
theorem cutP_drop {α : Type} (xs : List α) (k : Nat) : cutP xs (some (k : Int)) none = xs.drop k := by
  unfold cutP
  rw [HT.sIx_nat, HT.sIx_none]
  by_cases h : k ≤ xs.length
  · rw [Nat.min_eq_left h, List.take_of_length_le (by simp)]
  · rw [Nat.min_eq_right (by omega), List.drop_of_length_le (by omega), List.drop_of_length_le (by omega)]; simp
theorem cutS_take (l : List Nat) (k : Nat) : cutS ⟨l.toArray⟩ none (some (k : Int)) = ⟨(l.take k).toArray⟩ := by
  have := cutP_take l k
  unfold cutP at this
  unfold cutS
  simp only [Str.length, List.size_toArray, List.toList_toArray]
  simp only [this]
theorem cutS_drop (l : List Nat) (k : Nat) : cutS ⟨l.toArray⟩ (some (k : Int)) none = ⟨(l.drop k).toArray⟩ := by
  have := cutP_drop l k
  unfold cutP at this
  unfold cutS
  simp only [Str.length, List.size_toArray, List.toList_toArray]
  simp only [this]
theorem str_app (a b : List Nat) : (⟨a.toArray⟩ : Str) ++ (⟨b.toArray⟩ : Str) = ⟨(a ++ b).toArray⟩ := by
  show Str.append _ _ = _
  simp [Str.append]
theorem str_app1 (a : List Nat) (x : Nat) : (⟨a.toArray⟩ : Str) ++ (⟨#[x]⟩ : Str) = ⟨(a ++ [x]).toArray⟩ := str_app a [x]
theorem str_len (a : List Nat) : (⟨a.toArray⟩ : Str).length = a.length := by simp [Str.length]
theorem str_len1 (x : Nat) : (⟨#[x]⟩ : Str).length = 1 := rfl
theorem join_chars (a : Str) (h : a.cps = #[]) : ∀ cs : List Nat, Txt.join a (cs.map fun c => ⟨#[c]⟩) = ⟨cs.toArray⟩ := by
  intro cs
  rw [eq_of_beq (PyProof.Rows.join_plain_closes a (cs.map fun c => ⟨#[c]⟩))]
  induction cs with
  | nil => rfl
  | cons c cs ih =>
    cases cs with
    | nil => rfl
    | cons d ds =>
      simp only [List.map_cons] at ih ⊢
      show ((⟨#[c]⟩ : Str) ++ a) ++ Str.join a _ = _
      rw [ih]
      show Str.append (Str.append _ _) _ = _
      simp [Str.append, h]
theorem abc_at (i : Int) (h1 : 0 ≤ i) (h2 : i < 26) : atI (Str.ofString "abcdefghijklmnopqrstuvwxyz").cps.toList i = some (97 + i.toNat) := by
  obtain ⟨n, rfl⟩ := Int.eq_ofNat_of_zero_le h1
  rw [atI_nat]
  have : (Str.ofString "abcdefghijklmnopqrstuvwxyz").cps.toList = (List.range 26).map (97 + ·) := by decide +kernel
  rw [this]
  have : n < 26 := by omega
  simp [this]
theorem abc_mod (x : Int) : atI (Str.ofString "abcdefghijklmnopqrstuvwxyz").cps.toList (x % 26) = some (97 + (x % 26).toNat) := abc_at _ (Int.emod_nonneg _ (by omega)) (Int.emod_lt_of_pos _ (by omega))
theorem abc_len : (Str.ofString "abcdefghijklmnopqrstuvwxyz").length = 26 := by decide +kernel
theorem asStrs_fun {α : Type} (g : α → Str) : ∀ ys : List α, asStrs (ys.map fun y => .str (g y)) = some (ys.map g)
  | [] => rfl
  | y :: ys => by simp [asStrs_fun g ys]
theorem ofString_empty : Str.ofString "" = ⟨#[]⟩ := by decide +kernel
theorem ones_len (cs : List Nat) : ((cs.map fun c => (⟨#[c]⟩ : Str)).map (·.length)).sum = cs.length := by
  rw [List.map_map]
  induction cs with
  | nil => rfl
  | cons a l ih => simp only [List.map_cons, List.sum_cons, ih, List.length_cons]; simp [Str.length]; omega
/-- a drawn word -/
def wdS (st : List Nat) (sp : Nat) (a : Int) (k : Nat) : Str := ⟨(st.take sp ++ ([97 + ((a + 5 * k) % 26).toNat] ++ st.drop sp)).toArray⟩
theorem stem_ok {h : List PO} {r : Nat} (lt : r < h.length) (all : List PV) (mm : PV) (d : Ds) (c : Nat) (hc : c ≤ 100) :
    ∃ (cs : List Nat) (d' : Ds), lcL (.v .non) all (.nm 6) [6] bYes (toP (e2 opIx (eVar 2) (eCall f_law_next [] (aCons (toP (eVar 0)) (aCons (toP (eC (.int 26))) aNil))))) ((List.range c).map fun i : Nat => .int (i : Int)) [] ⟨[some (.v (.ref r)), some (.v mm), some (.v (.str "abcdefghijklmnopqrstuvwxyz")), none, none, none, none], hp h r d⟩
      = some (cs.map fun c => .str ⟨#[c]⟩, ⟨[some (.v (.ref r)), some (.v mm), some (.v (.str "abcdefghijklmnopqrstuvwxyz")), none, none, none, none], hp h r d'⟩) ∧ cs.length = c ∧ (∀ x ∈ cs, 97 ≤ x ∧ x ≤ 122) ∧ d'.i = d.i := by
  obtain ⟨acc, M, e, cs, d', rfl, rfl, h1, h2, h3⟩ := lcL_inv (e := .v .non) (all := all) (pt := .nm 6) (vs := [6]) (t := bYes) (f := toP (e2 opIx (eVar 2) (eCall f_law_next [] (aCons (toP (eVar 0)) (aCons (toP (eC (.int 26))) aNil))))) (fun i : Nat => PV.int (i : Int))
    (fun ys acc M => ∃ (cs : List Nat) (d' : Ds), acc = cs.map (fun c => .str ⟨#[c]⟩) ∧ M = ⟨[some (.v (.ref r)), some (.v mm), some (.v (.str "abcdefghijklmnopqrstuvwxyz")), none, none, none, none], hp h r d'⟩ ∧ cs.length + ys.length = c ∧ (∀ x ∈ cs, 97 ≤ x ∧ x ≤ 122) ∧ d'.i = d.i)
    (by
      rintro y ys acc M ⟨cs, d', rfl, rfl, h1, h2, h3⟩
      have n1 := next_ok lt d' 26 (by omega) (by omega)
      have l1 := nextV_lo d' (m := 26) (by omega)
      have l2 := nextV_hi d' (m := 26) (by omega)
      have at' := abc_at _ l1 l2
      have g4 : 26 ≤ sizeLine := by rw [sizeLine_val]; omega
      refine ⟨trivial, .inl ⟨_, _, ?_, cs ++ [97 + (nextV d' 26).toNat], nextD d' 26, by rw [List.map_append]; rfl, rfl, by simp at h1 ⊢; omega, ?_, by rw [nextD_i, h3]⟩⟩
      · simp [n1, abc_len, g4, at']
      · intro x hx
        rcases List.mem_append.mp hx with hx | hx
        · exact h2 x hx
        · simp at hx; subst hx; omega) (fun _ _ _ => trivial) (List.range c) [] _ ⟨[], d, rfl, rfl, by simp, by simp, rfl⟩
  exact ⟨cs, d', e, by simpa using h1, h2, h3⟩
theorem words_ok {h : List PO} {r : Nat} (lt : r < h.length) (d : Ds) (m : Nat) (hm : m ≤ 1000) :
    ∃ (st : List Nat) (sp : Nat) (a : Int) (d' : Ds), f_law_words [.ref r, .int m] (hp h r d) = .ok (.fr (.lst ((List.range m).map fun k => .str (wdS st sp a k)))) (hp h r d') ∧ st.length ≤ 7 ∧ (∀ x ∈ st, 97 ≤ x ∧ x ≤ 122) ∧ sp ≤ st.length ∧ 0 ≤ a ∧ a < 26 ∧ d'.i = d.i := by
  have n1 := next_ok lt d 8 (by omega) (by omega)
  have l1 := nextV_lo d (m := 8) (by omega)
  have l2 := nextV_hi d (m := 8) (by omega)
  obtain ⟨c, hc⟩ := Int.eq_ofNat_of_zero_le l1
  obtain ⟨st, d1, e1, k1, k2, k3⟩ := stem_ok lt ((List.range c).map fun i : Nat => .int (i : Int)) (.int m) (nextD d 8) c (by omega)
  have n2 := next_ok lt d1 (st.length + 1 : Nat) (by omega) (by omega)
  have l3 := nextV_lo d1 (m := (st.length + 1 : Nat)) (by omega)
  have l4 := nextV_hi d1 (m := (st.length + 1 : Nat)) (by omega)
  obtain ⟨sp, hsp⟩ := Int.eq_ofNat_of_zero_le l3
  have n3 := next_ok lt (nextD d1 (st.length + 1 : Nat)) 26 (by omega) (by omega)
  have l5 := nextV_lo (nextD d1 (st.length + 1 : Nat)) (m := 26) (by omega)
  have l6 := nextV_hi (nextD d1 (st.length + 1 : Nat)) (m := 26) (by omega)
  refine ⟨st, sp, nextV (nextD d1 (st.length + 1 : Nat)) 26, nextD (nextD d1 (st.length + 1 : Nat)) 26, ?_, by omega, k2, by omega, l5, l6, by rw [nextD_i, nextD_i, k3, nextD_i]⟩
  have g1 : c < 4611686018427387904 := by omega
  have g2 : c ≤ sizeLine := by rw [sizeLine_val]; omega
  have g3 : m < 4611686018427387904 := by omega
  have g4 : m ≤ sizeLine := by rw [sizeLine_val]; omega
  have e2 := asStrs_fun (fun c : Nat => (⟨#[c]⟩ : Str)) st
  have e3 := join_chars (Str.ofString "") (by rw [ofString_empty]) st
  have e4 : (Str.ofString "").length = 0 := by decide +kernel
  have e5 : ((st.map fun c => (⟨#[c]⟩ : Str)).map (·.length)).sum ≤ 16777216 := by rw [ones_len]; omega
  have e6 : st.length ≤ sizeLine := by rw [sizeLine_val]; omega
  simp at e5 e1
  rw [hsp] at n2
  simp at n2 n3
  unfold f_law_words runDef b_law_words
  simp [n1, hc, g1, g2, e1, e2, e3, e4, e5, str_len, e6, n2, n3, g3, g4]
  rw [lcL_map0 _ (fun i : Nat => PV.int i) (fun k : Nat => .str (wdS st sp (nextV (nextD d1 (st.length + 1)) 26) k))]
  · simp
  · intro k hk
    have hk' := List.mem_range.mp hk
    have g6 : k < 18446744073709551616 := by omega
    have g7 : 26 ≤ sizeLine := by rw [sizeLine_val]; omega
    have g9 : min sp st.length + 1 ≤ sizeLine := by rw [sizeLine_val]; omega
    have g10 : min sp st.length + 1 + (st.length - sp) ≤ sizeLine := by rw [sizeLine_val]; omega
    simp [abc_mod, abc_len, g6, g7, cutS_take, cutS_drop, str_app, str_app1, str_len, str_len1, e6, g9, g10, wdS]
end HF

end
section
set_option Elab.async false
set_option linter.all false
set_option maxRecDepth 20000
set_option autoImplicit false
namespace HF
open PySem PySem.Spec PyProof.Rows L2
/-! terms whose names stand for themselves -/
inductive Dr where
  | var (id : Int)
  | sign (w : Str) (ps : List (List Int × Dr))
  | hole (w : Str) (ts : List Dr)
theorem Dr.lt_sign {w : Str} {ps : List (List Int × Dr)} {p : List Int × Dr} (h : p ∈ ps) : sizeOf p.2 < sizeOf (Dr.sign w ps) := by
  have := List.sizeOf_lt_of_mem h
  obtain ⟨a, b⟩ := p
  simp at this ⊢
  omega
theorem Dr.lt_hole {w : Str} {ts : List Dr} {p : Dr} (h : p ∈ ts) : sizeOf p < sizeOf (Dr.hole w ts) := by
  have := List.sizeOf_lt_of_mem h
  simp at this ⊢
  omega
section
variable {α : Type} (fn : Int → α) (fs : Str → List (List Int × α) → α) (fh : Str → List α → α)
def Dr.fold : Dr → α
  | .var k => fn k
  | .sign w ps => fs w (ps.attach.map fun p => (p.1.1, Dr.fold p.1.2))
  | .hole w ts => fh w (ts.attach.map fun p => Dr.fold p.1)
termination_by t => sizeOf t
decreasing_by
  · exact Dr.lt_sign p.2
  · exact Dr.lt_hole p.2
theorem Dr.fold_var (k : Int) : Dr.fold fn fs fh (.var k) = fn k := by rw [Dr.fold]
theorem Dr.fold_sign (w : Str) (ps : List (List Int × Dr)) : Dr.fold fn fs fh (.sign w ps) = fs w (ps.map fun p => (p.1, Dr.fold fn fs fh p.2)) := by
  rw [Dr.fold]; congr 1; exact List.attach_map_val (l := ps) (f := fun p => (p.1, Dr.fold fn fs fh p.2))
theorem Dr.fold_hole (w : Str) (ts : List Dr) : Dr.fold fn fs fh (.hole w ts) = fh w (ts.map fun p => Dr.fold fn fs fh p) := by
  rw [Dr.fold]; congr 1; exact List.attach_map_val (l := ts) (f := fun p => Dr.fold fn fs fh p)
end
theorem Dr.ind {P : Dr → Prop} (hn : ∀ k, P (.var k)) (hs : ∀ w ps, (∀ p ∈ ps, P p.2) → P (.sign w ps)) (hh : ∀ w ts, (∀ t ∈ ts, P t) → P (.hole w ts)) (t : Dr) : P t :=
  match t with
  | .var k => hn k
  | .sign w ps => hs w ps fun p hp => Dr.ind hn hs hh p.2
  | .hole w ts => hh w ts fun p hp => Dr.ind hn hs hh p
termination_by sizeOf t
decreasing_by
  · exact Dr.lt_sign hp
  · exact Dr.lt_hole hp
def Dr.enc : Dr → PV := Dr.fold (fun k => .tup [.str "var", .int k]) (fun w ps => .tup [.str "sign", .str w, .lst (ps.map fun p => .tup [.lst (p.1.map .int), p.2])]) (fun w ts => .tup [.str "hole", .str w, .lst ts])
def encB (p : List Int × Dr) : PV := .tup [.lst (p.1.map .int), p.2.enc]
theorem Dr.enc_var (k : Int) : (Dr.var k).enc = .tup [.str "var", .int k] := Dr.fold_var ..
theorem Dr.enc_sign (w : Str) (ps : List (List Int × Dr)) : (Dr.sign w ps).enc = .tup [.str "sign", .str w, .lst (ps.map encB)] := by
  unfold Dr.enc; rw [Dr.fold_sign, List.map_map]; rfl
theorem Dr.enc_hole (w : Str) (ts : List Dr) : (Dr.hole w ts).enc = .tup [.str "hole", .str w, .lst (ts.map Dr.enc)] := by
  unfold Dr.enc; rw [Dr.fold_hole]
/-- its names are among these and those bound within -/
def Dr.In : Dr → List Int → Prop := Dr.fold (fun k env => k ∈ env) (fun _ ps env => ∀ p ∈ ps, p.2 (env ++ p.1)) (fun _ ts env => ∀ t ∈ ts, t env)
theorem Dr.In_var (k : Int) (env : List Int) : (Dr.var k).In env ↔ k ∈ env := by unfold Dr.In; rw [Dr.fold_var]
theorem Dr.In_sign (w : Str) (ps : List (List Int × Dr)) (env : List Int) : (Dr.sign w ps).In env ↔ ∀ p ∈ ps, p.2.In (env ++ p.1) := by
  unfold Dr.In; rw [Dr.fold_sign]; simp only [List.mem_map, forall_exists_index, and_imp, forall_apply_eq_imp_iff₂]
theorem Dr.In_hole (w : Str) (ts : List Dr) (env : List Int) : (Dr.hole w ts).In env ↔ ∀ t ∈ ts, t.In env := by
  unfold Dr.In; rw [Dr.fold_hole]; simp only [List.mem_map, forall_exists_index, and_imp, forall_apply_eq_imp_iff₂]
/-- the term that it tells, its names counted -/
def Dr.tm : Dr → List Int → Tm := Dr.fold (fun k env => .name (env.reverse.idxOf k)) (fun w ps env => .sign w (ps.map fun p => (p.1.length, p.2 (env ++ p.1)))) (fun w ts env => .hole w (ts.map fun t => t env))
theorem Dr.tm_var (k : Int) (env : List Int) : (Dr.var k).tm env = .name (env.reverse.idxOf k) := by unfold Dr.tm; rw [Dr.fold_var]
theorem Dr.tm_sign (w : Str) (ps : List (List Int × Dr)) (env : List Int) : (Dr.sign w ps).tm env = .sign w (ps.map fun p => (p.1.length, p.2.tm (env ++ p.1))) := by
  unfold Dr.tm; rw [Dr.fold_sign, List.map_map]; rfl
theorem Dr.tm_hole (w : Str) (ts : List Dr) (env : List Int) : (Dr.hole w ts).tm env = .hole w (ts.map fun t => t.tm env) := by
  unfold Dr.tm; rw [Dr.fold_hole, List.map_map]; rfl
theorem str_vs : (Str.ofString "var" = Str.ofString "sign") = False := by simp; decide +kernel
theorem str_vh : (Str.ofString "var" = Str.ofString "hole") = False := by simp; decide +kernel
theorem str_sv : (Str.ofString "sign" = Str.ofString "var") = False := by simp; decide +kernel
theorem str_hv : (Str.ofString "hole" = Str.ofString "var") = False := by simp; decide +kernel
theorem atI_neg1 {α : Type} (xs : List α) : atI xs (-1) = xs.getLast? := by
  unfold atI ixN
  rw [if_neg (by omega)]
  cases xs with
  | nil => simp
  | cons x xs => 
    rw [if_pos (by simp; omega)]
    simp only [List.length_cons]
    have : ((-1 : Int) + ((xs.length + 1 : Nat) : Int)).toNat = xs.length := by omega
    rw [this]
    simp [List.getLast?_eq_getElem?]
theorem ixN_nat (n j : Nat) : ixN n (j : Int) = if j < n then some j else none := by
  unfold ixN
  rw [if_pos (by omega)]
  by_cases h : j < n
  · rw [if_pos (by omega), if_pos h]; simp
  · rw [if_neg (by omega), if_neg h]
/-- the bounds of what is drawn -/
def sizeC : Nat → Nat
  | 0 => 13
  | d + 1 => 1 + 3 * sizeC d
def SW (ws : List Str) (w : Str) (l : List Nat) : Prop := w ∈ ws ∧ l.length ≤ 3 ∧ ∀ n ∈ l, n ≤ 2
def OW (hs : List Str) (w : Str) (l : Nat) : Prop := l ≤ 3 ∧ (hs[2 * l]? = some w ∨ hs[2 * l + 1]? = some w)
structure Grown (signs holes : List Str) (env : List Int) (a b : Nat) (t : Dr) : Prop where
  sc : t.In env
  depth : (t.tm env).depth ≤ a
  size : (t.tm env).size ≤ b
  ok : (t.tm env).Ok (SW signs) (OW holes)
theorem grown_var {signs holes : List Str} {env : List Int} {k : Int} (h : k ∈ env) : Grown signs holes env 1 1 (.var k) := by
  refine ⟨(Dr.In_var _ _).mpr h, ?_, ?_, ?_⟩
  · rw [Dr.tm_var, Tm.depth_eq]; simp [Tm.inner, nmax]
  · rw [Dr.tm_var, Tm.size_eq]; simp [Tm.inner]
  · rw [Dr.tm_var]; exact (Tm.Ok_name _).mpr trivial
theorem Grown.mono {signs holes : List Str} {env : List Int} {a b a' b' : Nat} {t : Dr} (g : Grown signs holes env a b t) (ha : a ≤ a') (hb : b ≤ b') : Grown signs holes env a' b' t := ⟨g.sc, Nat.le_trans g.depth ha, Nat.le_trans g.size hb, g.ok⟩
theorem sum_le_mul {b : Nat} : ∀ {l : List Nat}, (∀ x ∈ l, x ≤ b) → l.sum ≤ l.length * b
  | [], _ => by simp
  | x :: l, h => by
    have h1 := h x List.mem_cons_self
    have h2 := sum_le_mul (l := l) fun y hy => h y (List.mem_cons_of_mem _ hy)
    simp only [List.sum_cons, List.length_cons, Nat.add_mul]
    omega
theorem grown_hole {signs holes : List Str} {env : List Int} {a b : Nat} {w : Str} {ts : List Dr} (hw : OW holes w ts.length) (h : ∀ t ∈ ts, Grown signs holes env a b t) : Grown signs holes env (a + 1) (1 + 3 * b) (.hole w ts) := by
  refine ⟨(Dr.In_hole _ _ _).mpr fun t ht => (h t ht).sc, ?_, ?_, ?_⟩
  · rw [Dr.tm_hole, Tm.depth_eq]
    simp only [Tm.inner, List.map_map]
    have : nmax (ts.map ((fun p : Nat × Tm => p.2.depth) ∘ (fun t => (0, t)) ∘ fun t => t.tm env)) ≤ a := nmax_le fun m hm => by
      obtain ⟨t, ht, rfl⟩ := List.mem_map.mp hm
      exact (h t ht).depth
    omega
  · rw [Dr.tm_hole, Tm.size_eq]
    simp only [Tm.inner, List.map_map]
    have h1 : (ts.map ((fun p : Nat × Tm => p.2.size) ∘ (fun t => (0, t)) ∘ fun t => t.tm env)).sum ≤ (ts.map ((fun p : Nat × Tm => p.2.size) ∘ (fun t => (0, t)) ∘ fun t => t.tm env)).length * b := sum_le_mul fun m hm => by
      obtain ⟨t, ht, rfl⟩ := List.mem_map.mp hm
      exact (h t ht).size
    rw [List.length_map] at h1
    have h2 := Nat.mul_le_mul_right b hw.1
    omega
  · rw [Dr.tm_hole]
    refine (Tm.Ok_hole _ _).mpr ⟨by rw [List.length_map]; exact hw, fun t ht => ?_⟩
    obtain ⟨u, hu, rfl⟩ := List.mem_map.mp ht
    exact (h u hu).ok
theorem grown_sign {signs holes : List Str} {env : List Int} {a b : Nat} {w : Str} {ps : List (List Int × Dr)} (hw : w ∈ signs) (hl : ps.length ≤ 3) (hb : ∀ p ∈ ps, p.1.length ≤ 2) (h : ∀ p ∈ ps, Grown signs holes (env ++ p.1) a b p.2) : Grown signs holes env (a + 1) (1 + 3 * b) (.sign w ps) := by
  refine ⟨(Dr.In_sign _ _ _).mpr fun t ht => (h t ht).sc, ?_, ?_, ?_⟩
  · rw [Dr.tm_sign, Tm.depth_eq]
    simp only [Tm.inner, List.map_map]
    have : nmax (ps.map ((fun p : Nat × Tm => p.2.depth) ∘ fun p => (p.1.length, p.2.tm (env ++ p.1)))) ≤ a := nmax_le fun m hm => by
      obtain ⟨t, ht, rfl⟩ := List.mem_map.mp hm
      exact (h t ht).depth
    omega
  · rw [Dr.tm_sign, Tm.size_eq]
    simp only [Tm.inner, List.map_map]
    have h1 : (ps.map ((fun p : Nat × Tm => p.2.size) ∘ fun p => (p.1.length, p.2.tm (env ++ p.1)))).sum ≤ (ps.map ((fun p : Nat × Tm => p.2.size) ∘ fun p => (p.1.length, p.2.tm (env ++ p.1)))).length * b := sum_le_mul fun m hm => by
      obtain ⟨t, ht, rfl⟩ := List.mem_map.mp hm
      exact (h t ht).size
    rw [List.length_map] at h1
    have h2 := Nat.mul_le_mul_right b hl
    omega
  · rw [Dr.tm_sign]
    refine (Tm.Ok_sign _ _).mpr ⟨⟨hw, by simpa using hl, fun n hn => ?_⟩, fun t ht => ?_⟩
    · simp only [List.map_map, List.mem_map] at hn
      obtain ⟨p, hp, rfl⟩ := hn
      exact hb p hp
    · obtain ⟨u, hu, rfl⟩ := List.mem_map.mp ht
      exact (h u hu).ok
end HF

end
section
set_option Elab.async false
set_option linter.all false
set_option maxRecDepth 20000
set_option autoImplicit false
namespace HF
open PySem PySem.Spec PyProof.Rows L2
theorem seqIx_nat {j n : Nat} (h : j < n) : seqIndex? (j : Int) n = some j := (ixN_seq (by rw [ixN_nat, if_pos h])).1
theorem map_erase {α β : Type} (f : α → β) : ∀ (l : List α) (j : Nat), (l.eraseIdx j).map f = (l.map f).eraseIdx j
  | [], _ => rfl
  | x :: l, 0 => rfl
  | x :: l, j + 1 => by simp [map_erase f l j]
/-- the loop of what a hole is told: slots -/
def mT (q : PV) (ids : List Int) (many odd sg hl : PV) (left : List Int) (names : List Dr) (hh : List PO) : Mem :=
  ⟨[some (.v q), some (.v (.lst (ids.map .int))), some (.v many), some (.v odd), some (.v sg), some (.v hl), some (.own (.lst (left.map .int))), some (.own (.lst (names.map Dr.enc))), none, none], hh⟩
theorem told_loop {h : List PO} {r : Nat} (lt : r < h.length) (all : List PV) (d : Ds) (ids : List Int) (many odd sg hl : PV) (m : Nat) (hm : m ≤ ids.length) (hi : ids.length ≤ 1000) :
    ∃ (left : List Int) (names : List Dr) (d' : Ds), forL (.v .non) all (.nm 8) b_law_told_1 [8] ((List.range m).map fun i : Nat => .int (i : Int)) (mT (.ref r) ids many odd sg hl ids [] (hp h r d)) = .nx (mT (.ref r) ids many odd sg hl left names (hp h r d')) ∧ names.length = m ∧ (∀ t ∈ names, ∃ k ∈ ids, t = .var k) ∧ d'.i = d.i := by
  refine forL_inv (e := .v .non) (k := fun i : Nat => PV.int (i : Int)) (I := fun ys M => ∃ (left : List Int) (names : List Dr) (d' : Ds), M = mT (.ref r) ids many odd sg hl left names (hp h r d') ∧ names.length + ys.length = m ∧ left.length = ids.length - names.length ∧ (∀ k ∈ left, k ∈ ids) ∧ (∀ t ∈ names, ∃ k ∈ ids, t = .var k) ∧ d'.i = d.i)
    (Q := fun z => ∃ (left : List Int) (names : List Dr) (d' : Ds), z = .nx (mT (.ref r) ids many odd sg hl left names (hp h r d')) ∧ names.length = m ∧ (∀ t ∈ names, ∃ k ∈ ids, t = .var k) ∧ d'.i = d.i) ?_ ?_ _ _ ⟨ids, [], d, rfl, by simp, by simp, fun _ h => h, by simp, rfl⟩
  · rintro y ys M ⟨left, names, d', rfl, h1, h2, h3, h4, h5⟩
    simp at h1
    have pos : 0 < left.length := by omega
    have n1 := next_ok lt d' left.length (by omega) (by omega)
    have l1 := nextV_lo d' (m := left.length) (by omega)
    have l2 := nextV_hi d' (m := left.length) (by omega)
    obtain ⟨j, hj⟩ := Int.eq_ofNat_of_zero_le l1
    have hj2 : j < left.length := by omega
    obtain ⟨k, hk⟩ : ∃ k, left[j]? = some k := ⟨_, List.getElem?_eq_getElem hj2⟩
    have sx := seqIx_nat hj2
    have g1 : left.length ≤ sizeLine := by rw [sizeLine_val]; omega
    have g2 : names.length < sizeLine := by rw [sizeLine_val]; omega
    have g3 : j < 4611686018427387904 := by omega
    have e3 : (left.eraseIdx j).map PV.int = (left.map PV.int).eraseIdx j := map_erase _ _ _
    refine ⟨trivial, .inl ⟨mT (.ref r) ids many odd sg hl (left.eraseIdx j) (names ++ [.var k]) (hp h r (nextD d' left.length)), ?_, left.eraseIdx j, names ++ [.var k], nextD d' left.length, rfl, by simp; omega, ?_, ?_, ?_, by rw [nextD_i, h5]⟩⟩
    · unfold b_law_told_1
      simp [mT, n1, hj, sx, hk, g1, g2, g3, Dr.enc_var, e3]
    · rw [List.length_eraseIdx, if_pos hj2]; simp; omega
    · intro x hx; exact h3 x (List.mem_of_mem_eraseIdx hx)
    · intro t ht
      rcases List.mem_append.mp ht with ht | ht
      · exact h4 t ht
      · simp at ht; exact ⟨k, h3 k (List.mem_of_getElem? hk), ht⟩
  · rintro M ⟨left, names, d', rfl, h1, h2, h3, h4, h5⟩
    exact ⟨trivial, left, names, d', rfl, by simpa using h1, h4, h5⟩
theorem told_ok {h : List PO} {r : Nat} (lt : r < h.length) (d : Ds) (ids : List Int) (m : Nat) (odd : Int) (signs holes : List Str) (hm : m ≤ ids.length) (hi : ids.length ≤ 1000) (hs : 2 ≤ signs.length) (ho : 2 ≤ holes.length) :
    ∃ (ts : List Dr) (d' : Ds), f_law_told [.ref r, .lst (ids.map .int), .int m, .int odd, .lst (signs.map .str), .lst (holes.map .str)] (hp h r d) = .ok (.fr (.lst (ts.map Dr.enc))) (hp h r d') ∧ ts.length = m ∧ (∀ t ∈ ts, Grown signs holes ids 2 4 t) ∧ d'.i = d.i := by
  obtain ⟨left, names, d1, e, h1, h2, h3⟩ := told_loop lt ((List.range m).map fun i : Nat => .int (i : Int)) d ids (.int m) (.int odd) (.lst (signs.map .str)) (.lst (holes.map .str)) m hm hi
  have hn : ∀ t ∈ names, Grown signs holes ids 2 4 t := fun t ht => by
    obtain ⟨k, hk, rfl⟩ := h2 t ht
    exact (grown_var hk).mono (by omega) (by omega)
  have g1 : ids.length ≤ sizeLine := by rw [sizeLine_val]; omega
  have g2 : m < 4611686018427387904 := by omega
  have g3 : m ≤ sizeLine := by rw [sizeLine_val]; omega
  simp [mT] at e
  by_cases c1 : odd = 1 ∧ 1 < m
  · obtain ⟨c1, c2⟩ := c1
    subst c1
    have c3 : (1 : Int) < m := by omega
    have n1 := next_ok lt d1 ((m : Int) - 1) (by omega) (by omega)
    have l1 := nextV_lo d1 (m := (m : Int) - 1) (by omega)
    have l2 := nextV_hi d1 (m := (m : Int) - 1) (by omega)
    obtain ⟨j, hj⟩ := Int.eq_ofNat_of_zero_le l1
    obtain ⟨t, ht⟩ : ∃ t, names.getLast? = some t := by
      cases ee : names.getLast? with
      | none => rw [List.getLast?_eq_none_iff] at ee; subst ee; simp at h1; omega
      | some t => exact ⟨t, rfl⟩
    refine ⟨names.set j t, nextD d1 ((m : Int) - 1), ?_, by simp [h1], ?_, by rw [nextD_i, h3]⟩
    · have e4 : (names.set j t).map Dr.enc = (names.map Dr.enc).set j t.enc := List.map_set ..
      have e5 := ixN_nat names.length j
      rw [if_pos (by omega)] at e5
      unfold f_law_told runDef b_law_told
      simp [g1, g2, g3, e, c3, atI_neg1, ht, n1, hj, e5, e4]
    · intro x hx
      rcases List.mem_or_eq_of_mem_set hx with hx | hx
      · exact hn x hx
      · subst hx; exact hn _ (List.mem_of_getLast? ht)
  · by_cases c2 : odd = 2 ∧ 0 < m
    · obtain ⟨c2, c3⟩ := c2
      subst c2
      have c4 : (0 : Int) < m := by omega
      obtain ⟨s0, hs0⟩ : ∃ w, signs[0]? = some w := ⟨_, List.getElem?_eq_getElem (by omega)⟩
      obtain ⟨s1, hs1⟩ : ∃ w, signs[1]? = some w := ⟨_, List.getElem?_eq_getElem (by omega)⟩
      obtain ⟨o0, ho0⟩ : ∃ w, holes[0]? = some w := ⟨_, List.getElem?_eq_getElem (by omega)⟩
      obtain ⟨t0, ht0⟩ : ∃ t, names[0]? = some t := ⟨_, List.getElem?_eq_getElem (by omega)⟩
      have n1 := next_ok lt d1 3 (by omega) (by omega)
      have l1 := nextV_lo d1 (m := 3) (by omega)
      have l2 := nextV_hi d1 (m := 3) (by omega)
      obtain ⟨i, hi'⟩ := Int.eq_ofNat_of_zero_le l1
      have n2 := next_ok lt (nextD d1 3) m (by omega) (by omega)
      have l3 := nextV_lo (nextD d1 3) (m := m) (by omega)
      have l4 := nextV_hi (nextD d1 3) (m := m) (by omega)
      obtain ⟨j, hj⟩ := Int.eq_ofNat_of_zero_le l3
      have mem0 : t0 ∈ names := List.mem_of_getElem? ht0
      obtain ⟨k0, hk0, et0⟩ := h2 t0 mem0
      obtain ⟨t, gt, ht⟩ : ∃ t : Dr, Grown signs holes ids 2 4 t ∧ [(Dr.sign s0 []).enc, (Dr.hole o0 []).enc, (Dr.sign s1 [([], t0)]).enc][i]? = some t.enc := by
        have : i = 0 ∨ i = 1 ∨ i = 2 := by omega
        rcases this with rfl | rfl | rfl
        · exact ⟨.sign s0 [], (grown_sign (a := 0) (b := 0) (List.mem_of_getElem? hs0) (by simp) (by simp) (by simp)).mono (by omega) (by omega), rfl⟩
        · exact ⟨.hole o0 [], (grown_hole (a := 0) (b := 0) ⟨by simp, .inl ho0⟩ (by simp)).mono (by omega) (by omega), rfl⟩
        · refine ⟨.sign s1 [([], t0)], (grown_sign (a := 1) (b := 1) (List.mem_of_getElem? hs1) (by simp) (by simp) (fun p hp => ?_)).mono (by omega) (by omega), rfl⟩
          simp at hp; subst hp; subst et0
          exact grown_var (by simpa using hk0)
      refine ⟨names.set j t, nextD (nextD d1 3) m, ?_, by simp [h1], ?_, by rw [nextD_i, nextD_i, h3]⟩
      · have e4 : (names.set j t).map Dr.enc = (names.map Dr.enc).set j t.enc := List.map_set ..
        have e5 := ixN_nat names.length j
        rw [if_pos (by omega)] at e5
        simp [Dr.enc_sign, Dr.enc_hole, encB] at ht
        have ea := atI_nat ([.tup [.str "sign", .str s0, .lst []], .tup [.str "hole", .str o0, .lst []], .tup [.str "sign", .str s1, .lst [.tup [.lst [], t0.enc]]]] : List PV) i
        rw [ht] at ea
        unfold f_law_told runDef b_law_told
        simp [g1, g2, g3, e, c3, c4, atI_0, atI_1, hs0, hs1, ho0, ht0, n1, hi', n2, hj, ea, e5, e4]
      · intro x hx
        rcases List.mem_or_eq_of_mem_set hx with hx | hx
        · exact hn x hx
        · subst hx; exact gt
    · refine ⟨names, d1, ?_, h1, hn, h3⟩
      unfold f_law_told runDef b_law_told
      have f1 : odd = 1 → ¬ (1 : Int) < m := fun z y => c1 ⟨z, by omega⟩
      have f2 : odd = 2 → ¬ (0 : Int) < m := fun z y => c2 ⟨z, by omega⟩
      by_cases o1 : odd = 1
      · subst o1
        have := f1 rfl
        simp [g1, g2, g3, e, this]
      · by_cases o2 : odd = 2
        · subst o2
          have := f2 rfl
          have m0 : ¬ 0 < m := by omega
          simp [g1, g2, g3, e, this, m0]
        · simp [g1, g2, g3, e, o1, o2]
end HF

end
section
set_option Elab.async false
set_option linter.all false
set_option maxRecDepth 20000
set_option autoImplicit false
namespace HF
open PySem PySem.Spec PyProof.Rows L2
theorem pickS (x : Int) (h1 : 0 ≤ x) (h2 : x < 4) : ∃ k : Nat, k ≤ 2 ∧ atI [PV.int 0, .int 1, .int 1, .int 2] x = some (.int k) := by
  obtain ⟨n, rfl⟩ := Int.eq_ofNat_of_zero_le h1
  rw [atI_nat]
  have : n = 0 ∨ n = 1 ∨ n = 2 ∨ n = 3 := by omega
  rcases this with rfl | rfl | rfl | rfl
  · exact ⟨0, by omega, rfl⟩
  · exact ⟨1, by omega, rfl⟩
  · exact ⟨1, by omega, rfl⟩
  · exact ⟨2, by omega, rfl⟩
def mM (q : PV) (ids : List Int) (deep : Int) (sg hl kind : PV) (ps : List (List Int × Dr)) (hh : List PO) : Mem :=
  ⟨[some (.v q), some (.v (.lst (ids.map .int))), some (.v (.int deep)), some (.v sg), some (.v hl), some (.v kind), some (.own (.lst (ps.map encB))), none, none, none, none], hh⟩
theorem parts_loop {h : List PO} {r : Nat} (lt : r < h.length) (F : Fn) (all : List PV) (d : Ds) (ids : List Int) (deep : Nat) (signs holes : List Str) (kind : PV) (m a b N : Nat) (hm : m ≤ 3) (hi : ids.length + 2 ≤ N) (hN : N ≤ 1000)
    (hF : ∀ (d : Ds) (ids : List Int), ids.length ≤ N → ∃ (t : Dr) (d' : Ds), F [.ref r, .lst (ids.map .int), .int deep, .lst (signs.map .str), .lst (holes.map .str)] (hp h r d) = .ok (.v t.enc) (hp h r d') ∧ Grown signs holes ids a b t) :
    ∃ (ps : List (List Int × Dr)) (d' : Ds), forL (.v .non) all (.nm 9) (b_law_mostly_1 F) [9, 10] ((List.range m).map fun i : Nat => .int (i : Int)) (mM (.ref r) ids (deep + 1) (.lst (signs.map .str)) (.lst (holes.map .str)) kind [] (hp h r d)) = .nx (mM (.ref r) ids (deep + 1) (.lst (signs.map .str)) (.lst (holes.map .str)) kind ps (hp h r d')) ∧
      ps.length = m ∧ ∀ p ∈ ps, p.1.length ≤ 2 ∧ Grown signs holes (ids ++ p.1) a b p.2 := by
  refine forL_inv (e := .v .non) (k := fun i : Nat => PV.int (i : Int)) (I := fun ys M => ∃ (ps : List (List Int × Dr)) (d' : Ds), M = mM (.ref r) ids (deep + 1) (.lst (signs.map .str)) (.lst (holes.map .str)) kind ps (hp h r d') ∧ ps.length + ys.length = m ∧ ∀ p ∈ ps, p.1.length ≤ 2 ∧ Grown signs holes (ids ++ p.1) a b p.2)
    (Q := fun z => ∃ (ps : List (List Int × Dr)) (d' : Ds), z = .nx (mM (.ref r) ids (deep + 1) (.lst (signs.map .str)) (.lst (holes.map .str)) kind ps (hp h r d')) ∧ ps.length = m ∧ ∀ p ∈ ps, p.1.length ≤ 2 ∧ Grown signs holes (ids ++ p.1) a b p.2) ?_ ?_ _ _ ⟨[], d, rfl, by simp, by simp⟩
  · rintro y ys M ⟨ps, d1, rfl, h1, h2⟩
    simp at h1
    have n1 := next_ok lt d1 4 (by omega) (by omega)
    have l1 := nextV_lo d1 (m := 4) (by omega)
    have l2 := nextV_hi d1 (m := 4) (by omega)
    obtain ⟨k, hk, ek⟩ := pickS _ l1 l2
    have f1 := fresh_ok lt (nextD d1 4) k (by omega)
    obtain ⟨t, d2, e2, g2⟩ := hF ⟨(nextD d1 4).n, (nextD d1 4).i + k, (nextD d1 4).b⟩ (ids ++ freshL (nextD d1 4).i k) (by simp [freshL]; omega)
    have z1 : ids.length + (freshL (nextD d1 4).i k).length ≤ sizeLine := by rw [sizeLine_val]; simp [freshL]; omega
    have z2 : ps.length < sizeLine := by rw [sizeLine_val]; omega
    simp at e2
    refine ⟨trivial, .inl ⟨_, ?_, ps ++ [(freshL (nextD d1 4).i k, t)], d2, rfl, by simp; omega, ?_⟩⟩
    · unfold b_law_mostly_1
      simp [mM, n1, ek, f1, e2, z1, z2, encB]
    · intro p hp
      rcases List.mem_append.mp hp with hp | hp
      · exact h2 p hp
      · simp at hp; subst hp; exact ⟨by simp [freshL]; omega, g2⟩
  · rintro M ⟨ps, d1, rfl, h1, h2⟩
    exact ⟨trivial, ps, d1, rfl, by simpa using h1, h2⟩
theorem sizeC_ge : ∀ d, 13 ≤ sizeC d
  | 0 => by simp [sizeC]
  | d + 1 => by have := sizeC_ge d; simp only [sizeC]; omega
theorem mostly_ok {h : List PO} {r : Nat} (lt : r < h.length) (signs holes : List Str) (hs : 2 ≤ signs.length) (hs2 : signs.length ≤ 1000) (ho : 8 ≤ holes.length) : ∀ (n deep : Nat) (d : Ds) (ids : List Int), deep < n → ids.length + 2 * deep ≤ 900 →
    ∃ (t : Dr) (d' : Ds), f_law_mostly n [.ref r, .lst (ids.map .int), .int deep, .lst (signs.map .str), .lst (holes.map .str)] (hp h r d) = .ok (.v t.enc) (hp h r d') ∧ Grown signs holes ids (deep + 3) (sizeC deep) t
  | 0, deep, d, ids, hd, _ => absurd hd (Nat.not_lt_zero _)
  | n + 1, deep, d, ids, hd, hi => by
    have n1 := next_ok lt d 8 (by omega) (by omega)
    have l1 := nextV_lo d (m := 8) (by omega)
    have l2 := nextV_hi d (m := 8) (by omega)
    obtain ⟨c, hc⟩ := Int.eq_ofNat_of_zero_le l1
    have z1 : ids.length ≤ sizeLine := by rw [sizeLine_val]; omega
    have z2 : signs.length ≤ sizeLine := by rw [sizeLine_val]; omega
    have dz : ((deep : Int) = 0) = (deep = 0) := by simp
    by_cases ca : c < 3 ∨ (deep = 0 ∧ c < 5)
    · -- a hole
      have emin : (if (3 : Int) < ids.length then 3 else (ids.length : Int)) = ((min ids.length 3 : Nat) : Int) := by split <;> omega
      have n2 := next_ok lt (nextD d 8) ((min ids.length 3 + 1 : Nat) : Int) (by omega) (by omega)
      have l3 := nextV_lo (nextD d 8) (m := ((min ids.length 3 + 1 : Nat) : Int)) (by omega)
      have l4 := nextV_hi (nextD d 8) (m := ((min ids.length 3 + 1 : Nat) : Int)) (by omega)
      generalize hd2 : nextD (nextD d 8) ((min ids.length 3 + 1 : Nat) : Int) = d2 at n2
      obtain ⟨m, hm⟩ := Int.eq_ofNat_of_zero_le l3
      have n3 := next_ok lt d2 2 (by omega) (by omega)
      have l5 := nextV_lo d2 (m := 2) (by omega)
      have l6 := nextV_hi d2 (m := 2) (by omega)
      obtain ⟨q, hq⟩ := Int.eq_ofNat_of_zero_le l5
      obtain ⟨w, hw⟩ : ∃ w, holes[2 * m + q]? = some w := ⟨_, List.getElem?_eq_getElem (by omega)⟩
      have hat : atI (holes.map PV.str) (2 * (m : Int) + (q : Int)) = some (.str w) := by
        have := atI_nat (holes.map PV.str) (2 * m + q)
        rw [List.getElem?_map, hw] at this
        simpa using this
      have n4 := next_ok lt (nextD d2 2) 8 (by omega) (by omega)
      obtain ⟨ts, d', e5, t1, t2, t3⟩ := told_ok lt (nextD (nextD d2 2) 8) ids m (nextV (nextD d2 2) 8) signs holes (by omega) (by omega) hs (by omega)
      refine ⟨.hole w ts, d', ?_, ?_⟩
      · have g1 : m < 18446744073709551616 := by omega
        rw [hm] at n2
        simp at n2 n3 e5
        unfold f_law_mostly runDef b_law_mostly
        rcases ca with ca | ⟨ca, cb⟩
        · have c3 : (c : Int) < 3 := by omega
          simp [n1, hc, ca, c3, z1, emin, n2, n3, hq, hat, n4, e5, Dr.enc_hole]
        · subst ca
          have c5 : (c : Int) < 5 := by omega
          by_cases c3 : c < 3
          · have c3' : (c : Int) < 3 := by omega
            simp [n1, hc, c3, c3', z1, emin, n2, n3, hq, hat, n4, e5, Dr.enc_hole]
          · have c3' : ¬ (c : Int) < 3 := by omega
            simp [n1, hc, c3, c3', cb, c5, z1, emin, n2, n3, hq, hat, n4, e5, Dr.enc_hole]
      · have ow : OW holes w ts.length := ⟨by omega, by
          rw [t1]
          have : q = 0 ∨ q = 1 := by omega
          rcases this with rfl | rfl
          · exact .inl hw
          · exact .inr hw⟩
        have := sizeC_ge deep
        exact (grown_hole ow t2).mono (by omega) (by omega)
    · have c3 : ¬ c < 3 := fun z => ca (.inl z)
      have c5 : ¬ (deep = 0 ∧ c < 5) := fun z => ca (.inr z)
      have ee : ids.isEmpty = decide (ids = []) := by cases ids <;> rfl
      have c5' : deep = 0 → ¬ c < 5 := fun z y => c5 ⟨z, y⟩
      have c3i : ¬ (c : Int) < 3 := by omega
      by_cases cb : c = 3 ∧ ids ≠ []
      · obtain ⟨cb, ne⟩ := cb
        subst cb
        have pos : 0 < ids.length := List.length_pos_iff.mpr ne
        have dne : ¬ deep = 0 := fun z => c5' z (by omega)
        have n2 := next_ok lt (nextD d 8) ids.length (by omega) (by omega)
        have l3 := nextV_lo (nextD d 8) (m := ids.length) (by omega)
        have l4 := nextV_hi (nextD d 8) (m := ids.length) (by omega)
        obtain ⟨j, hj⟩ := Int.eq_ofNat_of_zero_le l3
        obtain ⟨k, hk⟩ : ∃ k, ids[j]? = some k := ⟨_, List.getElem?_eq_getElem (by omega)⟩
        refine ⟨.var k, nextD (nextD d 8) ids.length, ?_, (grown_var (List.mem_of_getElem? hk)).mono (by omega) (by have := sizeC_ge deep; omega)⟩
        unfold f_law_mostly runDef b_law_mostly
        simp [n1, hc, dne, toDs, PV.toD, toDs_ints, shaped_ints, shaped_nil, eqv_nil, ee, ne, z1, n2, hj, atI_nat, hk, Dr.enc_var]
      · have cb' : c = 3 → ids = [] := fun z => Classical.byContradiction fun y => cb ⟨z, y⟩
        -- behind the parts
        have fin : ∀ (ps : List (List Int × Dr)) (d2 : Ds), ps.length ≤ 3 → (∀ p ∈ ps, p.1.length ≤ 2 ∧ Grown signs holes (ids ++ p.1) (deep + 2) (sizeC deep / 3) p.2) → (1 + 3 * (sizeC deep / 3) ≤ sizeC deep) → ∃ (w : Str), atI (signs.map PV.str) (nextV d2 signs.length) = some (.str w) ∧ Grown signs holes ids (deep + 3) (sizeC deep) (.sign w ps) := fun ps d2 h1 h2 h3 => by
          have l3 := nextV_lo d2 (m := signs.length) (by omega)
          have l4 := nextV_hi d2 (m := signs.length) (by omega)
          obtain ⟨j, hj⟩ := Int.eq_ofNat_of_zero_le l3
          obtain ⟨w, hw⟩ : ∃ w, signs[j]? = some w := ⟨_, List.getElem?_eq_getElem (by omega)⟩
          refine ⟨w, by rw [hj, atI_nat, List.getElem?_map, hw]; rfl, (grown_sign (List.mem_of_getElem? hw) h1 (fun p hp => (h2 p hp).1) fun p hp => (h2 p hp).2).mono (by omega) h3⟩
        by_cases dz0 : deep = 0
        · subst dz0
          have c4 : ¬ c < 5 := c5' rfl
          have c4i : ¬ (c : Int) < 5 := by omega
          have cn3 : ¬ c = 3 := by omega
          have cn3i : ¬ (c : Int) = 3 := by omega
          have n2 := next_ok lt (nextD d 8) signs.length (by omega) (by omega)
          obtain ⟨w, e1, e2⟩ := fin [] (nextD d 8) (by simp) (by simp) (by decide)
          refine ⟨.sign w [], nextD (nextD d 8) signs.length, ?_, e2⟩
          unfold f_law_mostly runDef b_law_mostly
          simp [n1, hc, c3, c3i, c4, c4i, cn3, cn3i, z2, n2, e1, Dr.enc_sign]
        · obtain ⟨deep, rfl⟩ : ∃ e, deep = e + 1 := ⟨deep - 1, by omega⟩
          have n2 := next_ok lt (nextD d 8) 4 (by omega) (by omega)
          have l3 := nextV_lo (nextD d 8) (m := 4) (by omega)
          have l4 := nextV_hi (nextD d 8) (m := 4) (by omega)
          obtain ⟨m, hm⟩ := Int.eq_ofNat_of_zero_le l3
          obtain ⟨ps, d2, e3, e4, e5⟩ := parts_loop lt (f_law_mostly n) ((List.range m).map fun i : Nat => .int (i : Int)) (nextD (nextD d 8) 4) ids deep signs holes (.int c) m (deep + 3) (sizeC deep) (900 - 2 * deep) (by omega) (by omega) (by omega)
            (fun d ids hi => mostly_ok lt signs holes hs hs2 ho n deep d ids (by omega) (by omega))
          have n3 := next_ok lt d2 signs.length (by omega) (by omega)
          have sz : sizeC (deep + 1) / 3 = sizeC deep := by simp only [sizeC]; omega
          obtain ⟨w, e6, e7⟩ := fin ps d2 (by omega) (by rw [sz]; exact e5) (by rw [sz]; simp only [sizeC]; omega)
          have g1 : m < 4611686018427387904 := by omega
          have g2 : m ≤ sizeLine := by rw [sizeLine_val]; omega
          have dp : (0 : Int) < (deep : Int) + 1 := by omega
          have dn : ¬ (deep : Int) + 1 = 0 := by omega
          simp [mM] at e3
          refine ⟨.sign w ps, nextD d2 signs.length, ?_, e7⟩
          unfold f_law_mostly runDef b_law_mostly
          by_cases c33 : c = 3
          · have := cb' c33
            subst this
            subst c33
            simp at e3
            simp [n1, hc, dp, dn, toDs, PV.toD, shaped_nil, eqv_nil, z2, n2, hm, g1, g2, e3, n3, e6, Dr.enc_sign]
          · have c33i : ¬ (c : Int) = 3 := by omega
            simp [n1, hc, c3, c3i, dp, dn, c33, c33i, z2, n2, hm, g1, g2, e3, n3, e6, Dr.enc_sign]
end HF

end
section
set_option Elab.async false
set_option linter.all false
set_option maxRecDepth 20000
set_option autoImplicit false
namespace HF
open PySem PySem.Spec PyProof.Rows L2
theorem idx_spec (k : Int) : ∀ (l : List Int), k ∈ l → l.idxOf k < l.length ∧ l[l.idxOf k]? = some k ∧ ∀ j, j < l.idxOf k → ∃ x, l[j]? = some x ∧ x ≠ k
  | [], h => by simp at h
  | x :: l, h => by
    by_cases e : x = k
    · subst e
      simp [List.idxOf_cons]
    · have h' : k ∈ l := by
        rcases List.mem_cons.mp h with z | z
        · exact absurd z.symm e
        · exact z
      obtain ⟨h1, h2, h3⟩ := idx_spec k l h'
      have ei : (x :: l).idxOf k = l.idxOf k + 1 := by
        have : (x == k) = false := by simpa using e
        rw [List.idxOf_cons, this]; rfl
      rw [ei]
      refine ⟨by simpa using h1, by simpa using h2, fun j hj => ?_⟩
      cases j with
      | zero => exact ⟨x, by simp, e⟩
      | succ j =>
        obtain ⟨y, h4, h5⟩ := h3 j (by omega)
        exact ⟨y, by simpa using h4, h5⟩
theorem rev_get (l : List Int) (j : Nat) (h : j < l.length) : l.reverse[j]? = l[l.length - 1 - j]? := by
  rw [List.getElem?_reverse h]
def mW (t : PV) (env : List Int) (spot : Int) (h : List PO) : Mem := ⟨[some (.v t), some (.v (.lst (env.map .int))), some (.v (.int spot)), none, none, none], h⟩
theorem spot_loop (F : Fn) (env : List Int) (k : Int) (h : List PO) (hk : k ∈ env) (hl : env.length ≤ 1000) : whileL (b2 cpNe (e2 opIx (eVar 1) (eVar 2)) (e2 opIx (eVar 0) (eC (.int 1)))) (b_law_term_1 F) [] 100000000 (mW (.tup [.str "var", .int k]) env ((env.length : Int) - 1) h) =
    .nx (mW (.tup [.str "var", .int k]) env ((env.length : Int) - 1 - (env.reverse.idxOf k : Nat)) h) := by
  obtain ⟨i1, i2, i3⟩ := idx_spec k env.reverse (by simpa using hk)
  rw [List.length_reverse] at i1
  refine whileL_inv (I := fun n M => ∃ j : Nat, j ≤ env.reverse.idxOf k ∧ n = env.reverse.idxOf k - j ∧ M = mW (.tup [.str "var", .int k]) env ((env.length : Int) - 1 - j) h) (Q := fun z => z = .nx (mW (.tup [.str "var", .int k]) env ((env.length : Int) - 1 - (env.reverse.idxOf k : Nat)) h)) ?_ (env.reverse.idxOf k) _ _ (by omega) ⟨0, by omega, rfl, by simp⟩
  rintro n M ⟨j, hj, rfl, rfl⟩
  have cast : ((env.length : Int) - 1 - j) = ((env.length - 1 - j : Nat) : Int) := by omega
  have at' : ∀ x, env.reverse[j]? = some x → atI (env.map PV.int) ((env.length : Int) - 1 - j) = some (.int x) := fun x hx => by
    rw [rev_get env j (by omega)] at hx
    rw [cast, atI_nat, List.getElem?_map, hx]; rfl
  by_cases e : j = env.reverse.idxOf k
  · subst e
    have a := at' k i2
    refine .inl ⟨_, ?_, rfl⟩
    simp [mW, a, atI_1]
  · obtain ⟨x, hx, ne⟩ := i3 j (by omega)
    have a := at' x hx
    refine .inr ⟨mW (.tup [.str "var", .int k]) env ((env.length : Int) - 1 - j) h, ?_, .inl ⟨mW (.tup [.str "var", .int k]) env ((env.length : Int) - 1 - (j + 1 : Nat)) h, env.reverse.idxOf k - (j + 1), .inl ?_, by omega, j + 1, by omega, rfl, by simp [mW]⟩⟩
    · simp [mW, a, atI_1, ne]
    · unfold b_law_term_1
      simp [mW]; omega
theorem term_ok (signs holes : List Str) (h : List PO) : ∀ (n : Nat) (t : Dr) (env : List Int), (t.tm env).depth ≤ n → t.In env → env.length + 2 * (t.tm env).depth ≤ 1000 → (t.tm env).size ≤ 100000 → (t.tm env).Ok (SW signs) (OW holes) →
    f_law_term n [t.enc, .lst (env.map .int)] h = .ok (.v (t.tm env).enc) h
  | 0, t, env, hd, _, _, _, _ => by rw [Tm.depth_eq] at hd; omega
  | n + 1, t, env, hd, hi, hl, hz, ho => by
    have g1 : env.length ≤ sizeLine := by rw [sizeLine_val]; omega
    have il := (t.tm env).inner_len
    cases t with
    | var k =>
      have loop := spot_loop (f_law_term n) env k h ((Dr.In_var _ _).mp hi) (by omega)
      simp [mW] at loop
      have e : (env.length : Int) - 1 - ((env.length : Int) - 1 - (env.reverse.idxOf k : Nat)) = (env.reverse.idxOf k : Nat) := by omega
      rw [Dr.tm_var, Tm.enc_name]
      unfold f_law_term runDef b_law_term
      simp [Dr.enc_var, atI_0, g1, loop]
      exact e
    | sign w ps =>
      rw [Dr.tm_sign] at hd hl hz ho il ⊢
      have g2 : ps.length ≤ sizeLine := by rw [sizeLine_val]; simp [Tm.inner] at il; omega
      unfold f_law_term runDef b_law_term
      simp [Dr.enc_sign, atI_0, atI_1, atI_2, str_sv, g2]
      rw [lcL_map0 _ encB (fun p => encP (p.1.length, p.2.tm (env ++ p.1)))]
      · simp [g2, Tm.enc_sign, Function.comp_def]
      · intro p hp
        have mem : (p.1.length, p.2.tm (env ++ p.1)) ∈ (Tm.sign w (ps.map fun p => (p.1.length, p.2.tm (env ++ p.1)))).inner := List.mem_map_of_mem (f := fun p : List Int × Dr => (p.1.length, p.2.tm (env ++ p.1))) hp
        have b2 : p.1.length ≤ 2 := by
          refine ((Tm.Ok_sign _ _).mp ho).1.2.2 _ ?_
          rw [List.map_map]
          exact List.mem_map_of_mem (f := (fun q : Nat × Tm => q.1) ∘ fun p : List Int × Dr => (p.1.length, p.2.tm (env ++ p.1))) hp
        have d1 := Tm.depth_lt mem
        have s1 := Tm.size_lt mem
        have ih := term_ok signs holes h n p.2 (env ++ p.1) (by simp only at d1; omega) ((Dr.In_sign _ _ _).mp hi p hp) (by simp only at d1; simp; omega) (by simp only at s1; omega) (ho.inner mem)
        have g3 : env.length + p.1.length ≤ sizeLine := by rw [sizeLine_val]; omega
        have g4 : p.1.length ≤ sizeLine := by rw [sizeLine_val]; omega
        simp at ih
        simp [encB, g3, g4, ih, encP]
    | hole w ts =>
      rw [Dr.tm_hole] at hd hl hz ho il ⊢
      have g2 : ts.length ≤ sizeLine := by rw [sizeLine_val]; simp [Tm.inner] at il; omega
      unfold f_law_term runDef b_law_term
      simp [Dr.enc_hole, atI_0, atI_1, atI_2, str_hv, str_hs, g2]
      rw [lcL_map0 _ Dr.enc (fun p => (p.tm env).enc)]
      · simp [g2, Tm.enc_hole, Function.comp_def]
      · intro p hp
        have mem : (0, p.tm env) ∈ (Tm.hole w (ts.map fun p => p.tm env)).inner := by
          simp only [Tm.inner, List.map_map]
          exact List.mem_map_of_mem (f := (fun t => ((0 : Nat), t)) ∘ fun p : Dr => p.tm env) hp
        have d1 := Tm.depth_lt mem
        have s1 := Tm.size_lt mem
        have ih := term_ok signs holes h n p env (by simp only at d1; omega) ((Dr.In_hole _ _ _).mp hi p hp) (by simp only at d1; omega) (by simp only at s1; omega) (ho.inner mem)
        simp [ih]
end HF

end
section
set_option Elab.async false
set_option linter.all false
set_option maxRecDepth 20000
set_option autoImplicit false
namespace HF
open PySem PySem.Spec PyProof.Rows L2
/-! which terms stand straight -/
def namesOf : List Tm → Option (List Nat)
  | [] => some []
  | .name k :: r => (namesOf r).map (k :: ·)
  | _ => none
def told (ts : List Tm) : Option (List Nat) := (namesOf ts).bind fun ns => if ns.Nodup then some ns else none
def toldT : Tm → Option (List Nat)
  | .hole _ ts => told ts
  | _ => none
def optV : Option (List Nat) → PV
  | none => .non
  | some ns => .tup (ns.map fun n : Nat => .int (n : Int))
theorem namesOf_len : ∀ {ts : List Tm} {ns : List Nat}, namesOf ts = some ns → ns.length = ts.length
  | [], ns, h => by cases h; rfl
  | .name k :: r, ns, h => by
    cases e : namesOf r with
    | none => simp [namesOf, e] at h
    | some ms => simp [namesOf, e] at h; subst h; simp [namesOf_len e]
  | .sign _ _ :: r, ns, h => by cases h
  | .hole _ _ :: r, ns, h => by cases h
theorem intsIn (k : Nat) (ns : List Nat) : ((k : Int) ∈ ns.map fun n : Nat => (n : Int)) ↔ k ∈ ns := by
  constructor
  · intro h
    obtain ⟨n, hn, e⟩ := List.mem_map.mp h
    have : n = k := by omega
    exact this ▸ hn
  · exact fun h => List.mem_map_of_mem (f := fun n : Nat => (n : Int)) h
def accV (ns : List Nat) : List PV := (ns.map fun n : Nat => (n : Int)).map .int
theorem accV_snoc (ns : List Nat) (k : Nat) : accV (ns ++ [k]) = accV ns ++ [.int k] := by simp [accV]
theorem accV_len (ns : List Nat) : (accV ns).length = ns.length := by simp [accV]
theorem namesOf_app : ∀ (a b : List Tm), namesOf (a ++ b) = (namesOf a).bind fun x => (namesOf b).map (x ++ ·)
  | [], b => by simp [namesOf]
  | .name k :: r, b => by
    simp only [List.cons_append, namesOf, namesOf_app r b]
    cases namesOf r <;> simp [Function.comp_def]
  | .sign _ _ :: r, b => rfl
  | .hole _ _ :: r, b => rfl
theorem toldT_hole (w : Str) (ts : List Tm) : toldT (.hole w ts) = told ts := rfl
def mN (t0 : PV) (ns : List Nat) (h : List PO) : Mem := ⟨[some (.v t0), some (.own (.lst (accV ns))), none], h⟩
def ToldEnd (t0 : PV) (h : List PO) (ts : List Tm) (z : SR) : Prop := match told ts with
  | some ns => z = .nx (mN t0 ns h)
  | none => ∃ r, z = .ret (.v .non) ⟨r, h⟩
theorem told_none_of {xs : List Tm} {y : Tm} {ys : List Tm} {ns : List Nat} (hx : namesOf xs = some ns) (h : ∀ k, y = .name k → k ∈ ns) : told (xs ++ y :: ys) = none := by
  unfold told
  rw [namesOf_app, hx]
  cases y with
  | name k =>
    have := h k rfl
    simp only [Option.bind_some, namesOf]
    cases namesOf ys with
    | none => rfl
    | some ms =>
      simp only [Option.map_some, Option.bind_some]
      rw [if_neg]
      intro nd
      exact (List.nodup_append.mp nd).2.2 k this k (by simp) rfl
  | sign w ps => rfl
  | hole w ps => rfl
theorem asInts_acc (ns : List Nat) : asInts (accV ns) = some (ns.map fun n : Nat => (n : Int)) := asInts_map _
theorem told_loop2 (ts : List Tm) (t0 : PV) (h : List PO) (all : List PV) (hl : ts.length ≤ 100000) : ToldEnd t0 h ts (forL (.v .non) all (.nm 2) b_told_names_1 [2] (ts.map Tm.enc) ⟨[some (.v t0), some (.own (.lst [])), none], h⟩) := by
  refine forL_inv (e := .v .non) (k := Tm.enc) (I := fun ys M => ∃ xs ns, xs ++ ys = ts ∧ namesOf xs = some ns ∧ ns.Nodup ∧ M = mN t0 ns h) (Q := ToldEnd t0 h ts) ?_ ?_ _ _ ⟨[], [], rfl, rfl, by simp, rfl⟩
  · rintro y ys M ⟨xs, ns, e, hx, nd, rfl⟩
    have hlen : xs.length + (ys.length + 1) = ts.length := by rw [← e]; simp
    have nl := namesOf_len hx
    refine ⟨trivial, ?_⟩
    have bad : (∀ k, y = .name k → k ∈ ns) → told ts = none := fun hk => by rw [← e]; exact told_none_of hx hk
    cases y with
    | name k =>
      by_cases hk : k ∈ ns
      · refine .inr ⟨.ret (.v .non) ⟨[some (.v t0), some (.own (.lst (accV ns))), some (.v (Tm.name k).enc)], h⟩, ?_, ?_⟩
        · have hk' : ∃ a, a ∈ ns ∧ (a : Int) = (k : Int) := ⟨k, hk, rfl⟩
          unfold b_told_names_1
          simp [mN, Tm.enc_name, atI_0, atI_1, asInts_acc, hk']
        · unfold ToldEnd
          rw [bad fun j hj => by cases hj; exact hk]
          exact ⟨_, rfl⟩
      · have g : (accV ns).length < sizeLine := by rw [accV_len, sizeLine_val]; omega
        refine .inl ⟨mN t0 (ns ++ [k]) h, ?_, xs ++ [.name k], ns ++ [k], by simpa using e, ?_, ?_, rfl⟩
        · have hk' : ¬ ∃ a, a ∈ ns ∧ (a : Int) = (k : Int) := by
            rintro ⟨a, ha, e⟩
            have : a = k := by omega
            exact hk (this ▸ ha)
          unfold b_told_names_1
          simp [mN, Tm.enc_name, atI_0, atI_1, asInts_acc, hk', g, accV_snoc]
        · rw [namesOf_app, hx]; rfl
        · exact List.nodup_append.mpr ⟨nd, by simp, fun a ha b hb => by simp at hb; subst hb; exact fun z => hk (z ▸ ha)⟩
    | sign w ps =>
      refine .inr ⟨.ret (.v .non) ⟨[some (.v t0), some (.own (.lst (accV ns))), some (.v (Tm.sign w ps).enc)], h⟩, ?_, ?_⟩
      · unfold b_told_names_1
        simp [mN, Tm.enc_sign, atI_0, atI_1, str_sn]
      · unfold ToldEnd
        rw [bad fun j hj => by cases hj]
        exact ⟨_, rfl⟩
    | hole w ps =>
      refine .inr ⟨.ret (.v .non) ⟨[some (.v t0), some (.own (.lst (accV ns))), some (.v (Tm.hole w ps).enc)], h⟩, ?_, ?_⟩
      · unfold b_told_names_1
        simp [mN, Tm.enc_hole, atI_0, atI_1, str_hn]
      · unfold ToldEnd
        rw [bad fun j hj => by cases hj]
        exact ⟨_, rfl⟩
  · rintro M ⟨xs, ns, e, hx, nd, rfl⟩
    simp at e; subst e
    refine ⟨trivial, ?_⟩
    unfold ToldEnd told
    rw [hx, Option.bind_some, if_pos nd]
theorem told_names_ok (t : Tm) (h : List PO) (hs : t.size ≤ 100000) : f_told_names [t.enc] h = .ok (.v (optV (toldT t))) h := by
  have il := t.inner_len
  cases t with
  | name k => unfold f_told_names runDef b_told_names; simp [Tm.enc_name, atI_0, str_nh, toldT, optV]
  | sign w ps => unfold f_told_names runDef b_told_names; simp [Tm.enc_sign, atI_0, str_sh, toldT, optV]
  | hole w ts =>
    simp [Tm.inner] at il
    have hl := told_loop2 ts (Tm.hole w ts).enc h (ts.map Tm.enc) (by omega)
    rw [toldT_hole]
    unfold ToldEnd at hl
    cases e : told ts with
    | none =>
      rw [e] at hl
      obtain ⟨r, hl⟩ := hl
      simp [Tm.enc_hole] at hl
      unfold f_told_names runDef b_told_names
      simp [Tm.enc_hole, atI_0, atI_2, hl, optV]
    | some ns =>
      rw [e] at hl
      have nl : ns.length ≤ 100000 := by
        unfold told at e
        cases e2 : namesOf ts with
        | none => rw [e2] at e; cases e
        | some ms =>
          rw [e2] at e
          simp only [Option.bind_some] at e
          split at e
          · cases e; rw [namesOf_len e2]; omega
          · cases e
      have g : (accV ns).length ≤ sizeLine := by rw [accV_len, sizeLine_val]; omega
      simp [Tm.enc_hole, mN] at hl
      unfold f_told_names runDef b_told_names
      simp [Tm.enc_hole, atI_0, atI_2, hl, optV, g]
      simp [accV]
end HF

end
section
set_option Elab.async false
set_option linter.all false
set_option maxRecDepth 20000
set_option autoImplicit false
namespace HF
open PySem PySem.Spec PyProof.Rows L2
/-! the law's own reckoning -/
theorem dedup_spec : ∀ (ns acc : List Int), acc.Nodup → ((acc ++ ns).Nodup → ns.foldl step_dedup acc = acc ++ ns) ∧ (¬ (acc ++ ns).Nodup → (ns.foldl step_dedup acc).length < acc.length + ns.length)
  | [], acc, h => ⟨fun _ => by simp, fun z => absurd (by simpa using h) z⟩
  | n :: ns, acc, h => by
    by_cases hn : n ∈ acc
    · have e : step_dedup acc n = acc := by
        unfold step_dedup
        rw [if_pos]
        exact List.any_eq_true.mpr ⟨n, hn, by simp⟩
      obtain ⟨h1, h2⟩ := dedup_spec ns acc h
      rw [List.foldl_cons, e]
      refine ⟨fun nd => ?_, fun _ => ?_⟩
      · exact absurd rfl ((List.nodup_append.mp nd).2.2 n hn n List.mem_cons_self)
      · by_cases nd : (acc ++ ns).Nodup
        · rw [h1 nd]; simp
        · have := h2 nd; simp only [List.length_cons]; omega
    · have e : step_dedup acc n = acc ++ [n] := by
        unfold step_dedup
        rw [if_neg]
        intro z
        obtain ⟨x, hx, ex⟩ := List.any_eq_true.mp z
        simp at ex; subst ex; exact hn hx
      have nd1 : (acc ++ [n]).Nodup := List.nodup_append.mpr ⟨h, by simp, fun a ha b hb => by simp at hb; subst hb; exact fun z => hn (z ▸ ha)⟩
      obtain ⟨h1, h2⟩ := dedup_spec ns (acc ++ [n]) nd1
      rw [List.foldl_cons, e]
      have ea : acc ++ n :: ns = acc ++ [n] ++ ns := by simp
      rw [ea]
      refine ⟨h1, fun z => ?_⟩
      have := h2 z
      simp at this ⊢
      omega
theorem unlike_lt (ns : List Int) : (unlike ns).length < ns.length ↔ ¬ ns.Nodup := by
  obtain ⟨h1, h2⟩ := dedup_spec ns [] (by simp)
  unfold unlike
  simp only [List.nil_append] at h1 h2
  constructor
  · intro h nd; rw [h1 nd] at h; omega
  · intro h; simpa using h2 h
theorem nodup_cast (ns : List Nat) : (ns.map fun n : Nat => (n : Int)).Nodup ↔ ns.Nodup := by
  unfold List.Nodup
  rw [List.pairwise_map]
  constructor
  · exact fun h => h.imp fun h e => h (by rw [e])
  · exact fun h => h.imp fun h e => h (by omega)
def NamesEnd (t0 : PV) (h : List PO) (ts : List Tm) (z : SR) : Prop := match namesOf ts with
  | some ns => z = .nx (mN t0 ns h)
  | none => ∃ r, z = .ret (.v .non) ⟨r, h⟩
theorem due_loop (ts : List Tm) (t0 : PV) (h : List PO) (all : List PV) (hl : ts.length ≤ 100000) : NamesEnd t0 h ts (forL (.v .non) all (.nm 2) b_law_due_1 [2] (ts.map Tm.enc) ⟨[some (.v t0), some (.own (.lst [])), none], h⟩) := by
  refine forL_inv (e := .v .non) (k := Tm.enc) (I := fun ys M => ∃ xs ns, xs ++ ys = ts ∧ namesOf xs = some ns ∧ M = mN t0 ns h) (Q := NamesEnd t0 h ts) ?_ ?_ _ _ ⟨[], [], rfl, rfl, rfl⟩
  · rintro y ys M ⟨xs, ns, e, hx, rfl⟩
    have hlen : xs.length + (ys.length + 1) = ts.length := by rw [← e]; simp
    have nl := namesOf_len hx
    refine ⟨trivial, ?_⟩
    have bad : (∀ k, y ≠ .name k) → namesOf ts = none := fun hk => by
      rw [← e, namesOf_app, hx]
      cases y with
      | name k => exact absurd rfl (hk k)
      | sign w ps => rfl
      | hole w ps => rfl
    cases y with
    | name k =>
      have g : (accV ns).length < sizeLine := by rw [accV_len, sizeLine_val]; omega
      refine .inl ⟨mN t0 (ns ++ [k]) h, ?_, xs ++ [.name k], ns ++ [k], by simpa using e, ?_, rfl⟩
      · unfold b_law_due_1
        simp [mN, Tm.enc_name, atI_0, atI_1, g, accV_snoc]
      · rw [namesOf_app, hx]; rfl
    | sign w ps =>
      refine .inr ⟨.ret (.v .non) ⟨[some (.v t0), some (.own (.lst (accV ns))), some (.v (Tm.sign w ps).enc)], h⟩, ?_, ?_⟩
      · unfold b_law_due_1
        simp [mN, Tm.enc_sign, atI_0, atI_1, str_sn]
      · unfold NamesEnd
        rw [bad fun j hj => by cases hj]
        exact ⟨_, rfl⟩
    | hole w ps =>
      refine .inr ⟨.ret (.v .non) ⟨[some (.v t0), some (.own (.lst (accV ns))), some (.v (Tm.hole w ps).enc)], h⟩, ?_, ?_⟩
      · unfold b_law_due_1
        simp [mN, Tm.enc_hole, atI_0, atI_1, str_hn]
      · unfold NamesEnd
        rw [bad fun j hj => by cases hj]
        exact ⟨_, rfl⟩
  · rintro M ⟨xs, ns, e, hx, rfl⟩
    simp at e; subst e
    refine ⟨trivial, ?_⟩
    unfold NamesEnd
    rw [hx]
theorem due_ok (t : Tm) (h : List PO) (hs : t.size ≤ 4000) : f_law_due [t.enc] h = .ok (.v (optV (toldT t))) h := by
  have il := t.inner_len
  cases t with
  | name k => unfold f_law_due runDef b_law_due; simp [Tm.enc_name, atI_0, str_nh, toldT, optV]
  | sign w ps => unfold f_law_due runDef b_law_due; simp [Tm.enc_sign, atI_0, str_sh, toldT, optV]
  | hole w ts =>
    simp [Tm.inner] at il
    have hl := due_loop ts (Tm.hole w ts).enc h (ts.map Tm.enc) (by omega)
    rw [toldT_hole]
    unfold NamesEnd at hl
    unfold told
    cases e : namesOf ts with
    | none =>
      rw [e] at hl
      obtain ⟨r, hl⟩ := hl
      simp [Tm.enc_hole] at hl
      unfold f_law_due runDef b_law_due
      simp [Tm.enc_hole, atI_0, atI_2, hl, optV]
    | some ns =>
      rw [e] at hl
      have nl : ns.length ≤ 4000 := by rw [namesOf_len e]; omega
      have g : (accV ns).length ≤ sizeLine := by rw [accV_len, sizeLine_val]; omega
      have ul := unlike_lt (ns.map fun n : Nat => (n : Int))
      rw [nodup_cast, List.length_map] at ul
      simp [Tm.enc_hole, mN] at hl
      unfold f_law_due runDef b_law_due
      by_cases nd : ns.Nodup
      · have u1 : ¬ (unlike (ns.map fun n : Nat => (n : Int))).length < ns.length := fun z => ul.mp z nd
        simp [Tm.enc_hole, atI_0, atI_2, hl, optV, g, asInts_acc, nl, accV_len, u1, nd]
        simp [accV]
      · have u1 := ul.mpr nd
        simp [Tm.enc_hole, atI_0, atI_2, hl, optV, g, asInts_acc, nl, accV_len, u1, nd]
end HF

end
section
set_option Elab.async false
set_option linter.all false
set_option maxRecDepth 20000
set_option autoImplicit false
namespace HF
open PySem PySem.Spec PyProof.Rows L2
theorem eqvAll_ints (ns : List Int) : PyData.eqvAll (ns.map .int) (ns.map .int) = true := by
  induction ns with
  | nil => rfl
  | cons n ns ih => simp [PyData.eqvAll, PyData.eqv, ih]
theorem asBls_fun {α : Type} (g : α → Bool) : ∀ ys : List α, asBls (ys.map fun y => .bl (g y)) = some (ys.map g)
  | [] => rfl
  | y :: ys => by simp [asBls_fun g ys]
theorem shaped_tupI (ns : List Int) : SeqAt.shaped (.tuple (ns.map .int)) = true := by
  have := shaped_ints ns
  unfold SeqAt.shaped at this ⊢
  simpa [PyData.canLay0, PyData.depth] using this
theorem right_ok (o : Option (List Nat)) (h : List PO) (hl : ∀ ns, o = some ns → ns.length ≤ 100000) : f_law_right [optV o, optV o] h = .ok (.v (.bl true)) h := by
  cases o with
  | none => unfold f_law_right runDef b_law_right; simp [optV]
  | some ns =>
    have e1 : optV (some ns) = .tup ((ns.map fun n : Nat => (n : Int)).map .int) := by simp [optV]
    rw [e1]
    generalize hm : (ns.map fun n : Nat => (n : Int)) = ms
    unfold f_law_right runDef b_law_right
    have ml : ms.length ≤ 100000 := by rw [← hm, List.length_map]; exact hl ns rfl
    have g : ms.length ≤ sizeLine := by rw [sizeLine_val]; omega
    simp [kitB_tuple_tuple, PV.toD, toDs_ints, shaped_tupI, PyData.eqv, eqvAll_ints]
    rw [lcL_map0 _ PV.int (fun n => .bl true)]
    · have := asBls_fun (fun _ : Int => true) ms
      simp only [List.nil_append]
      simp [this]
    · intro n hn
      simp [kitB_int_int, kitB_int_bool]
theorem Tm.lt_inner {t : Tm} {p : Nat × Tm} (h : p ∈ t.inner) : sizeOf p.2 < sizeOf t := by
  cases t with
  | name k => simp [Tm.inner] at h
  | sign w ps => exact Tm.lt_sign h
  | hole w ts =>
    simp only [Tm.inner, List.mem_map] at h
    obtain ⟨t, ht, rfl⟩ := h
    exact Tm.lt_hole ht
/-- the terms within a term, it ahead -/
def Tm.within (t : Tm) : List Tm := t :: (t.inner.attach.map fun p => Tm.within p.1.2).flatten
termination_by sizeOf t
decreasing_by exact Tm.lt_inner p.2
theorem Tm.within_eq (t : Tm) : t.within = t :: (t.inner.map fun p => p.2.within).flatten := by
  rw [Tm.within]; congr 2; exact List.attach_map_val (l := t.inner) (f := fun p => p.2.within)
theorem Tm.within_len (t : Tm) : t.within.length = t.size := by
  induction t using Tm.ind' with
  | h t ih =>
    rw [Tm.within_eq, Tm.size_eq, List.length_cons, List.length_flatten, List.map_map]
    have : t.inner.map (List.length ∘ fun p => p.2.within) = t.inner.map fun p => p.2.size := List.map_congr_left fun p hp => ih p hp
    rw [this]; omega
theorem Tm.within_size {t u : Tm} : u ∈ t.within → u.size ≤ t.size := by
  induction t using Tm.ind' with
  | h t ih =>
    intro hu
    rw [Tm.within_eq] at hu
    rcases List.mem_cons.mp hu with rfl | hu
    · exact Nat.le_refl _
    · obtain ⟨l, hl, hu⟩ := List.mem_flatten.mp hu
      obtain ⟨p, hp, rfl⟩ := List.mem_map.mp hl
      have := ih p hp hu
      have := Tm.size_lt hp
      omega
theorem flat_len_le (ps qs : List (Nat × Tm)) : ((ps.map fun p => p.2.within).flatten).length ≤ (((ps ++ qs).map fun p => p.2.within).flatten).length := by
  rw [List.map_append, List.flatten_append, List.length_append]; omega
theorem within_ok : ∀ (n : Nat) (t : Tm) (h : List PO), t.depth ≤ n → t.size ≤ 100000 → f_law_within n [t.enc] h = .ok (.v (.lst (t.within.map Tm.enc))) h
  | 0, t, h, hd, _ => by rw [Tm.depth_eq] at hd; omega
  | n + 1, t, h, hd, hs => by
    have wl := t.within_len
    have loop : ∀ (all : List PV), forL (.v .non) all (.nm 3) (b_law_within_1 (f_law_within n)) [3] (t.inner.map fun p => p.2.enc) ⟨[some (.v t.enc), some (.v (.lst [t.enc])), some (.v (.lst (t.inner.map fun p => p.2.enc))), none, none, none], h⟩ =
        .nx ⟨[some (.v t.enc), some (.v (.lst (t.within.map Tm.enc))), some (.v (.lst (t.inner.map fun p => p.2.enc))), none, none, none], h⟩ := fun all => by
      refine forL_inv (e := .v .non) (k := fun p : Nat × Tm => p.2.enc) (I := fun ys M => ∃ xs, xs ++ ys = t.inner ∧ ∃ L, L = t :: (xs.map fun p => p.2.within).flatten ∧ M = ⟨[some (.v t.enc), some (.v (.lst (L.map Tm.enc))), some (.v (.lst (t.inner.map fun p => p.2.enc))), none, none, none], h⟩)
        (Q := fun z => z = .nx ⟨[some (.v t.enc), some (.v (.lst (t.within.map Tm.enc))), some (.v (.lst (t.inner.map fun p => p.2.enc))), none, none, none], h⟩) ?_ ?_ _ _ ⟨[], rfl, [t], by simp, rfl⟩
      · rintro y ys M ⟨xs, e, L, eL, rfl⟩
        have hy : y ∈ t.inner := by rw [← e]; simp
        have ih := within_ok n y.2 h (by have := Tm.depth_lt hy; omega) (by have := Tm.size_lt hy; omega)
        have tot : (t :: ((xs ++ [y]).map fun p => p.2.within).flatten).length ≤ 100000 := by
          have e2 : t.inner = (xs ++ [y]) ++ ys := by rw [← e]; simp
          have := flat_len_le (xs ++ [y]) ys
          rw [← e2] at this
          have w2 := t.within_len
          rw [Tm.within_eq] at w2
          simp only [List.length_cons] at w2 ⊢
          omega
        have eL2 : L ++ y.2.within = t :: ((xs ++ [y]).map fun p => p.2.within).flatten := by rw [eL]; simp
        refine ⟨trivial, .inl ⟨_, ?_, xs ++ [y], by simpa using e, L ++ y.2.within, eL2, rfl⟩⟩
        have g : L.length + y.2.within.length ≤ sizeLine := by
          rw [sizeLine_val]
          rw [← eL2, List.length_append] at tot
          omega
        unfold b_law_within_1
        simp [ih, g]
      · rintro M ⟨xs, e, L, eL, rfl⟩
        simp at e; subst e
        exact ⟨trivial, by rw [Tm.within_eq, eL]⟩
    have il := t.inner_len
    have g1 : t.inner.length ≤ sizeLine := by rw [sizeLine_val]; omega
    unfold f_law_within runDef b_law_within
    cases t with
    | name k =>
      have := loop []
      simp [Tm.inner, Tm.enc_name] at this
      simp [Tm.enc_name, atI_0, str_ns, str_nh, this]
    | sign w ps =>
      have := loop (ps.map fun p => p.2.enc)
      simp [Tm.inner, Tm.enc_sign] at this
      simp [Tm.enc_sign, atI_0, atI_2, str_sn, str_sh]
      rw [lcL_map0 _ encP (fun p => p.2.enc)]
      · simp [this, str_sh]
      · intro p hp
        simp [encP]
    | hole w ts =>
      have := loop (ts.map Tm.enc)
      simp [Tm.inner, Tm.enc_hole, Function.comp_def] at this g1
      simp [Tm.enc_hole, atI_0, atI_2, str_hn, str_hs, g1, this]
end HF

end
section
set_option Elab.async false
set_option linter.all false
set_option maxRecDepth 20000
set_option autoImplicit false
namespace HF
open PySem PySem.Spec PyProof.Rows L2
def isHole : Tm → Bool
  | .hole _ _ => true
  | _ => false
/-- all holes within stand straight -/
def strT (t : Tm) : Bool := t.within.all fun u => !isHole u || (toldT u).isSome
theorem strT_sign (w : Str) (ps : List (Nat × Tm)) : strT (.sign w ps) = ps.all fun p => strT p.2 := by
  unfold strT
  rw [Tm.within_eq]
  simp only [List.all_cons, isHole, Bool.not_false, Bool.true_or, Bool.true_and, Tm.inner, List.all_flatten, List.all_map]
  rfl
theorem namesOf_all : ∀ {ts : List Tm} {ns : List Nat}, namesOf ts = some ns → ∀ t ∈ ts, ∃ k, t = .name k
  | [], ns, h, t, ht => by simp at ht
  | .name k :: r, ns, h, t, ht => by
    cases e : namesOf r with
    | none => simp [namesOf, e] at h
    | some ms =>
      rcases List.mem_cons.mp ht with rfl | ht
      · exact ⟨k, rfl⟩
      · exact namesOf_all e t ht
  | .sign _ _ :: r, ns, h, _, _ => by cases h
  | .hole _ _ :: r, ns, h, _, _ => by cases h
theorem strT_hole (w : Str) (ts : List Tm) : strT (.hole w ts) = (told ts).isSome := by
  unfold strT
  rw [Tm.within_eq]
  simp only [List.all_cons, isHole, Bool.not_true, Bool.false_or, toldT_hole]
  cases e : told ts with
  | none => rfl
  | some ns =>
    simp only [Option.isSome_some, Bool.true_and, List.all_eq_true]
    intro u hu
    obtain ⟨l, hl, hu⟩ := List.mem_flatten.mp hu
    obtain ⟨p, hp, rfl⟩ := List.mem_map.mp hl
    simp only [Tm.inner, List.mem_map] at hp
    obtain ⟨t, ht, rfl⟩ := hp
    unfold told at e
    cases e2 : namesOf ts with
    | none => rw [e2] at e; cases e
    | some ms =>
      obtain ⟨k, rfl⟩ := namesOf_all e2 t ht
      rw [Tm.within_eq] at hu
      simp [Tm.inner] at hu
      subst hu
      rfl
theorem straight_ok : ∀ (n : Nat) (t : Tm) (h : List PO), t.depth ≤ n → t.size ≤ 100000 → f_is_straight n [t.enc] h = .ok (.v (.bl (strT t))) h
  | 0, t, h, hd, _ => by rw [Tm.depth_eq] at hd; omega
  | n + 1, t, h, hd, hs => by
    have il := t.inner_len
    unfold f_is_straight runDef b_is_straight
    cases t with
    | name k =>
      have : strT (.name k) = true := by unfold strT; rw [Tm.within_eq]; simp [isHole, Tm.inner]
      simp [Tm.enc_name, atI_0, this]
    | sign w ps =>
      simp [Tm.enc_sign, atI_0, atI_2, str_sn, strT_sign]
      rw [lcL_map0 _ encP (fun p => .bl (strT p.2))]
      · have := asBls_fun (fun p : Nat × Tm => strT p.2) ps
        simp only [List.nil_append]
        simp [this, Function.comp_def]
      · intro p hp
        have hp' : p ∈ (Tm.sign w ps).inner := hp
        have ih := straight_ok n p.2 h (by have := Tm.depth_lt hp'; omega) (by have := Tm.size_lt hp'; omega)
        simp [encP, ih]
    | hole w ts =>
      have tn := told_names_ok (.hole w ts) h hs
      simp [Tm.enc_hole, toldT_hole] at tn
      simp [Tm.enc_hole, atI_0, atI_2, str_hn, str_hs, strT_hole, tn]
      cases told ts <;> simp [optV]
theorem toldT_len {u : Tm} {ns : List Nat} (h : toldT u = some ns) : ns.length ≤ u.size := by
  cases u with
  | name k => cases h
  | sign w ps => cases h
  | hole w ts =>
    have il := (Tm.hole w ts).inner_len
    simp [Tm.inner] at il
    rw [toldT_hole] at h
    unfold told at h
    cases e2 : namesOf ts with
    | none => rw [e2] at h; cases h
    | some ms =>
      rw [e2] at h
      simp only [Option.bind_some] at h
      split at h
      · cases h; rw [namesOf_len e2]; omega
      · cases h
theorem state_ok (c k : Int) (h : List PO) (h0 : 0 ≤ k) (h1 : k ≤ 100000) : ∃ d : Ds, f_law_state [.int c, .int k] h = .ok (.fr (stP d)) h := by
  have g1 : k.natAbs < 2 ^ 64 := by omega
  simp at g1
  by_cases e : c % 2 = 1
  · refine ⟨⟨c / 2, 0, true⟩, ?_⟩
    unfold f_law_state runDef b_law_state
    simp [e, stP]
  · have b1 : ∀ x : Int, (x % 2305843009213693951).natAbs < 18446744073709551616 := fun x => by
      have h1 := Int.emod_nonneg x (b := 2305843009213693951) (by omega)
      have h2 := Int.emod_lt_of_pos x (b := 2305843009213693951) (by omega)
      omega
    refine ⟨⟨((c % 10 ^ 60 + 1000003 * k + 12345) % 2305843009213693951) * ((c % 10 ^ 60 + 1000003 * k + 12345) % 2305843009213693951) % 2305843009213693951 * 48271 % 2305843009213693951, 0, false⟩, ?_⟩
    unfold f_law_state runDef b_law_state
    simp [e, stP, g1, b1]
end HF

end
section
set_option Elab.async false
set_option linter.all false
set_option maxRecDepth 20000
set_option autoImplicit false
namespace HF
open PySem PySem.Spec PyProof.Rows L2
theorem holes_fm (l : List Tm) : (l.filterMap fun u => if isHole u = true then some u.enc else none) = (l.filter isHole).map Tm.enc := by
  induction l with
  | nil => rfl
  | cons u l ih => by_cases h : isHole u = true <;> simp [List.filterMap_cons, List.filter_cons, h, ih]
theorem good_ok (c k : Int) (h : List PO) (h0 : 0 ≤ k) (h1 : k ≤ 100000) : ∃ h', f_law_good [.int c, .int k] h = .ok (.v (.bl true)) h' := by
  obtain ⟨d0, e0⟩ := state_ok c k h h0 h1
  obtain ⟨H0, eH⟩ : ∃ H0, H0 = h ++ [stP d0] := ⟨_, rfl⟩
  have lt : h.length < H0.length := by rw [eH]; simp
  have eh : h ++ [stP d0] = hp H0 h.length d0 := by unfold hp; rw [eH]; simp
  obtain ⟨st, sp, a, d1, e1, -, -, -, -, -, -⟩ := words_ok lt d0 10 (by omega)
  obtain ⟨ws, ews⟩ : ∃ ws : List Str, ws = (List.range 10).map (wdS st sp a) := ⟨_, rfl⟩
  have wl : ws.length = 10 := by rw [ews]; simp
  have ew2 : (List.range 10).map (fun k => PV.str (wdS st sp a k)) = ws.map .str := by rw [ews, List.map_map]; rfl
  rw [ew2] at e1
  have n2 := next_ok lt d1 4 (by omega) (by omega)
  have l1 := nextV_lo d1 (m := 4) (by omega)
  have l2 := nextV_hi d1 (m := 4) (by omega)
  obtain ⟨m, hm⟩ := Int.eq_ofNat_of_zero_le l1
  have f3 := fresh_ok lt (nextD d1 4) m (by omega)
  obtain ⟨ids, eids⟩ : ∃ ids : List Int, ids = freshL (nextD d1 4).i m := ⟨_, rfl⟩
  have il : ids.length ≤ 3 := by rw [eids]; simp [freshL]; omega
  rw [← eids] at f3
  obtain ⟨t, d3, e4, g4⟩ := mostly_ok lt (ws.take 4) (ws.drop 2) (by simp; omega) (by simp; omega) (by simp; omega) 5 3 ⟨(nextD d1 4).n, (nextD d1 4).i + m, (nextD d1 4).b⟩ ids (by omega) (by omega)
  have dep := g4.depth
  have siz : (t.tm ids).size ≤ 364 := g4.size
  have e5 := term_ok (ws.take 4) (ws.drop 2) (hp H0 h.length d3) 12 t ids (by omega) g4.sc (by omega) (by omega) g4.ok
  obtain ⟨T, eT⟩ : ∃ T, T = t.tm ids := ⟨_, rfl⟩
  rw [← eT] at dep siz e5
  have e6 := within_ok 12 T (hp H0 h.length d3) (by omega) (by omega)
  have e7 := straight_ok 12 T (hp H0 h.length d3) (by omega) (by omega)
  have sub : ∀ u ∈ T.within, u.size ≤ 364 := fun u hu => Nat.le_trans (Tm.within_size hu) siz
  have c4 := cutP_take (ws.map PV.str) 4
  have c2 := cutP_drop (ws.map PV.str) 2
  rw [← List.map_take] at c4
  rw [← List.map_drop] at c2
  refine ⟨hp H0 h.length d3, ?_⟩
  rw [hm] at n2
  simp at e1 n2 e4 c4 c2
  unfold f_law_good runDef b_law_good
  simp [e0, eh, e1, n2, f3, c4, c2, e4, e5, e6]
  rw [lcL_fm0 _ Tm.enc (fun u => if isHole u = true then some u.enc else none)]
  · rw [holes_fm]
    simp [e7, kitB_bool_bool]
    rw [lcL_map0 _ Tm.enc (fun u => .bl (toldT u).isSome)]
    · have b1 := asBls_fun (fun u : Tm => (toldT u).isSome) (T.within.filter isHole)
      have b2 : strT T = ((T.within.filter isHole).map fun u => (toldT u).isSome).all id := by
        unfold strT
        rw [List.all_map, List.all_filter]; rfl
      simp only [List.nil_append]
      simp [b1, b2]
      rw [lcL_map0 _ Tm.enc (fun u => .bl true)]
      · have b3 := asBls_fun (fun u : Tm => true) T.within
        simp only [List.nil_append]
        simp [b3]
      · intro u hu
        have s1 := sub u hu
        have r1 := told_names_ok u (hp H0 h.length d3) (by omega)
        have r2 := due_ok u (hp H0 h.length d3) (by omega)
        have r3 := right_ok (toldT u) (hp H0 h.length d3) (fun ns hn => by have := toldT_len hn; omega)
        simp [r1, r2, r3]
    · intro u hu
      have s1 := sub u (List.mem_filter.mp hu).1
      have r2 := due_ok u (hp H0 h.length d3) (by omega)
      simp [r2]
      cases toldT u <;> simp [optV]
  · intro u hu
    cases u with
    | name k => simp [Tm.enc_name, atI_0, str_nh, isHole]
    | sign w ps => simp [Tm.enc_sign, atI_0, str_sh, isHole]
    | hole w ts => simp [Tm.enc_hole, atI_0, isHole]
theorem law_ok (ns : List Int) (h : List PO) (hn : ns.length ≤ 63) : ∃ h', f_law [.rol (ns.map .int)] h = .ok (.v (.bl true)) h' := by
  have loop : ∀ (all : List PV) (cs : List Int), cs.length ≤ 100 → ∃ h', forL (.v .non) all (.tp [1, 2]) b_law_1 [1, 2] (cs.zipIdx.map fun p => .tup [.int (p.2 : Nat), .int p.1]) ⟨[some (.v (.rol (ns.map .int))), none, none], h⟩ = .nx ⟨[some (.v (.rol (ns.map .int))), none, none], h'⟩ := fun all cs hc => by
    refine forL_inv (e := .v .non) (k := fun p : Int × Nat => .tup [.int (p.2 : Nat), .int p.1]) (I := fun ys M => (∃ xs, xs ++ ys = cs.zipIdx) ∧ ∃ h', M = ⟨[some (.v (.rol (ns.map .int))), none, none], h'⟩) (Q := fun z => ∃ h', z = .nx ⟨[some (.v (.rol (ns.map .int))), none, none], h'⟩) ?_ ?_ _ _ ⟨⟨[], rfl⟩, h, rfl⟩
    · rintro y ys M ⟨⟨xs, e⟩, h', rfl⟩
      have hy : y.2 ≤ 100 := by
        have : y ∈ cs.zipIdx := by rw [← e]; simp
        have := (List.mem_zipIdx this).2.1
        omega
      obtain ⟨h2, g⟩ := good_ok y.1 (y.2 : Nat) h' (by omega) (by omega)
      refine ⟨trivial, .inl ⟨⟨[some (.v (.rol (ns.map .int))), none, none], h2⟩, ?_, ⟨xs ++ [y], by simpa using e⟩, h2, rfl⟩⟩
      unfold b_law_1
      simp [g]
    · rintro M ⟨-, h', rfl⟩
      exact ⟨trivial, h', rfl⟩
  obtain ⟨h', e⟩ := loop (enumP ((0 :: ns.take 30).map .int)) (0 :: ns.take 30) (by simp; omega)
  refine ⟨h', ?_⟩
  have c30 := cutP_take (ns.map PV.int) 30
  rw [← List.map_take] at c30
  have g1 : 1 + min 30 ns.length ≤ sizeLine := by rw [sizeLine_val]; omega
  have e2 := enumP_map PV.int (0 :: ns.take 30)
  rw [← e2] at e
  simp at c30 e
  unfold f_law runDef b_law
  simp [c30, g1, e]
theorem law_end (ns : List Int) (hn : ns.length ≤ 63) : ∃ h', f_law [.rol (ns.map .int)] [] = .ok (.v (.bl true)) h' := law_ok ns [] hn
end HF

end
section
set_option Elab.async false
set_option linter.all false
set_option maxRecDepth 100000
set_option autoImplicit false
namespace HF
open PySem PySem.Spec PyProof.Rows L2
theorem tops_at {l : PySem.W.OpenLaw} {w : World} {K : PySem.W.Frag} {h : Heap} {mg : Str → Option Value} {fa : Addr} (KX : K.In h) (NG : h.Ns mainGlobals mg) (mlaw : mg "law" = some (.ref fa))
    {f1 f2 f3 f4 f5 f6 f7 f8 f9 f10 f11 f12 f13 f14 : Addr}
    {oc1 kv1 dc1 pm1 cd1 ct1 oc2 kv2 dc2 pm2 cd2 ct2 oc3 kv3 dc3 pm3 cd3 ct3 oc4 kv4 dc4 pm4 cd4 ct4 oc5 kv5 dc5 pm5 cd5 ct5 oc6 kv6 dc6 pm6 cd6 ct6 oc7 kv7 dc7 pm7 cd7 ct7 oc8 kv8 dc8 pm8 cd8 ct8 oc9 kv9 dc9 pm9 cd9 ct9 oc10 kv10 dc10 pm10 cd10 ct10 oc11 kv11 dc11 pm11 cd11 ct11 oc12 kv12 dc12 pm12 cd12 ct12 oc13 kv13 dc13 pm13 cd13 ct13 oc14 kv14 dc14 pm14 cd14 ct14 : Value} {od1 an1 od2 an2 od3 an3 od4 an4 od5 an5 od6 an6 od7 an7 od8 an8 od9 an9 od10 an10 od11 an11 od12 an12 od13 an13 od14 an14 : Option Addr} {sl1 sl2 sl3 sl4 sl5 sl6 sl7 sl8 sl9 sl10 sl11 sl12 sl13 sl14 : Array (Option Value)}
    (a1 : PySem.W.nsIn K mainGlobals "told_names" = some (some (.ref f1)))
    (l1 : K.lookup f1 = some ⟨oc1, od1, .func (PySem.W.fnOf "told_names" "told_names" (defArgs s_told_names) (defBody s_told_names) (defScope s_told_names) .none kv1 dc1 pm1 an1 cd1 ct1), sl1⟩)
    (c1 : PySem.W.codeIn K cd1 "told_names" = true) (k1 : PySem.W.keepIn K (.ref f1) = true)
    (a2 : PySem.W.nsIn K mainGlobals "is_straight" = some (some (.ref f2)))
    (l2 : K.lookup f2 = some ⟨oc2, od2, .func (PySem.W.fnOf "is_straight" "is_straight" (defArgs s_is_straight) (defBody s_is_straight) (defScope s_is_straight) .none kv2 dc2 pm2 an2 cd2 ct2), sl2⟩)
    (c2 : PySem.W.codeIn K cd2 "is_straight" = true) (k2 : PySem.W.keepIn K (.ref f2) = true)
    (a3 : PySem.W.nsIn K mainGlobals "_law_state" = some (some (.ref f3)))
    (l3 : K.lookup f3 = some ⟨oc3, od3, .func (PySem.W.fnOf "_law_state" "_law_state" (defArgs s_law_state) (defBody s_law_state) (defScope s_law_state) .none kv3 dc3 pm3 an3 cd3 ct3), sl3⟩)
    (c3 : PySem.W.codeIn K cd3 "_law_state" = true) (k3 : PySem.W.keepIn K (.ref f3) = true)
    (a4 : PySem.W.nsIn K mainGlobals "_law_next" = some (some (.ref f4)))
    (l4 : K.lookup f4 = some ⟨oc4, od4, .func (PySem.W.fnOf "_law_next" "_law_next" (defArgs s_law_next) (defBody s_law_next) (defScope s_law_next) .none kv4 dc4 pm4 an4 cd4 ct4), sl4⟩)
    (c4 : PySem.W.codeIn K cd4 "_law_next" = true) (k4 : PySem.W.keepIn K (.ref f4) = true)
    (a5 : PySem.W.nsIn K mainGlobals "_law_fresh" = some (some (.ref f5)))
    (l5 : K.lookup f5 = some ⟨oc5, od5, .func (PySem.W.fnOf "_law_fresh" "_law_fresh" (defArgs s_law_fresh) (defBody s_law_fresh) (defScope s_law_fresh) .none kv5 dc5 pm5 an5 cd5 ct5), sl5⟩)
    (c5 : PySem.W.codeIn K cd5 "_law_fresh" = true) (k5 : PySem.W.keepIn K (.ref f5) = true)
    (a6 : PySem.W.nsIn K mainGlobals "_law_words" = some (some (.ref f6)))
    (l6 : K.lookup f6 = some ⟨oc6, od6, .func (PySem.W.fnOf "_law_words" "_law_words" (defArgs s_law_words) (defBody s_law_words) (defScope s_law_words) .none kv6 dc6 pm6 an6 cd6 ct6), sl6⟩)
    (c6 : PySem.W.codeIn K cd6 "_law_words" = true) (k6 : PySem.W.keepIn K (.ref f6) = true)
    (a7 : PySem.W.nsIn K mainGlobals "_law_told" = some (some (.ref f7)))
    (l7 : K.lookup f7 = some ⟨oc7, od7, .func (PySem.W.fnOf "_law_told" "_law_told" (defArgs s_law_told) (defBody s_law_told) (defScope s_law_told) .none kv7 dc7 pm7 an7 cd7 ct7), sl7⟩)
    (c7 : PySem.W.codeIn K cd7 "_law_told" = true) (k7 : PySem.W.keepIn K (.ref f7) = true)
    (a8 : PySem.W.nsIn K mainGlobals "_law_mostly" = some (some (.ref f8)))
    (l8 : K.lookup f8 = some ⟨oc8, od8, .func (PySem.W.fnOf "_law_mostly" "_law_mostly" (defArgs s_law_mostly) (defBody s_law_mostly) (defScope s_law_mostly) .none kv8 dc8 pm8 an8 cd8 ct8), sl8⟩)
    (c8 : PySem.W.codeIn K cd8 "_law_mostly" = true) (k8 : PySem.W.keepIn K (.ref f8) = true)
    (a9 : PySem.W.nsIn K mainGlobals "_law_term" = some (some (.ref f9)))
    (l9 : K.lookup f9 = some ⟨oc9, od9, .func (PySem.W.fnOf "_law_term" "_law_term" (defArgs s_law_term) (defBody s_law_term) (defScope s_law_term) .none kv9 dc9 pm9 an9 cd9 ct9), sl9⟩)
    (c9 : PySem.W.codeIn K cd9 "_law_term" = true) (k9 : PySem.W.keepIn K (.ref f9) = true)
    (a10 : PySem.W.nsIn K mainGlobals "_law_due" = some (some (.ref f10)))
    (l10 : K.lookup f10 = some ⟨oc10, od10, .func (PySem.W.fnOf "_law_due" "_law_due" (defArgs s_law_due) (defBody s_law_due) (defScope s_law_due) .none kv10 dc10 pm10 an10 cd10 ct10), sl10⟩)
    (c10 : PySem.W.codeIn K cd10 "_law_due" = true) (k10 : PySem.W.keepIn K (.ref f10) = true)
    (a11 : PySem.W.nsIn K mainGlobals "_law_right" = some (some (.ref f11)))
    (l11 : K.lookup f11 = some ⟨oc11, od11, .func (PySem.W.fnOf "_law_right" "_law_right" (defArgs s_law_right) (defBody s_law_right) (defScope s_law_right) .none kv11 dc11 pm11 an11 cd11 ct11), sl11⟩)
    (c11 : PySem.W.codeIn K cd11 "_law_right" = true) (k11 : PySem.W.keepIn K (.ref f11) = true)
    (a12 : PySem.W.nsIn K mainGlobals "_law_within" = some (some (.ref f12)))
    (l12 : K.lookup f12 = some ⟨oc12, od12, .func (PySem.W.fnOf "_law_within" "_law_within" (defArgs s_law_within) (defBody s_law_within) (defScope s_law_within) .none kv12 dc12 pm12 an12 cd12 ct12), sl12⟩)
    (c12 : PySem.W.codeIn K cd12 "_law_within" = true) (k12 : PySem.W.keepIn K (.ref f12) = true)
    (a13 : PySem.W.nsIn K mainGlobals "_law_good" = some (some (.ref f13)))
    (l13 : K.lookup f13 = some ⟨oc13, od13, .func (PySem.W.fnOf "_law_good" "_law_good" (defArgs s_law_good) (defBody s_law_good) (defScope s_law_good) .none kv13 dc13 pm13 an13 cd13 ct13), sl13⟩)
    (c13 : PySem.W.codeIn K cd13 "_law_good" = true) (k13 : PySem.W.keepIn K (.ref f13) = true)
    (a14 : PySem.W.nsIn K mainGlobals "law" = some (some (.ref f14)))
    (l14 : K.lookup f14 = some ⟨oc14, od14, .func (PySem.W.fnOf "law" "law" (defArgs s_law) (defBody s_law) (defScope s_law) .none kv14 dc14 pm14 an14 cd14 ct14), sl14⟩)
    (c14 : PySem.W.codeIn K cd14 "law" = true) (k14 : PySem.W.keepIn K (.ref f14) = true)
    (z_all : PySem.W.nsIn K mainGlobals "all" = some none)
    (z_bool : PySem.W.nsIn K mainGlobals "bool" = some none)
    (z_divmod : PySem.W.nsIn K mainGlobals "divmod" = some none)
    (z_enumerate : PySem.W.nsIn K mainGlobals "enumerate" = some none)
    (z_int : PySem.W.nsIn K mainGlobals "int" = some none)
    (z_isinstance : PySem.W.nsIn K mainGlobals "isinstance" = some none)
    (z_len : PySem.W.nsIn K mainGlobals "len" = some none)
    (z_list : PySem.W.nsIn K mainGlobals "list" = some none)
    (z_min : PySem.W.nsIn K mainGlobals "min" = some none)
    (z_range : PySem.W.nsIn K mainGlobals "range" = some none)
    (z_set : PySem.W.nsIn K mainGlobals "set" = some none)
    (z_tuple : PySem.W.nsIn K mainGlobals "tuple" = some none)
    : ∃ fd : FuncData, (∀ (s : Shared) (v : Value), BindsTo s fd ⟨[v], []⟩ [("_law_script", v)]) ∧ ∀ base : Heap, K.In base → base.Ns mainGlobals mg → FnOk l.prog w K mg base (L2.CX l.prog w) 15 fa fd ["_law_script"] (spTop K f_law) := by
  have same := mlaw.symm.trans (PySem.W.mg_of KX NG a14)
  cases same
  have FL := fun_mk (st := s_law) l14 c14 k14
  refine ⟨PySem.W.fnOf "law" "law" (defArgs s_law) (defBody s_law) (defScope s_law) .none kv14 dc14 pm14 an14 cd14 ct14, fun s v => .of_eq rfl, fun base _ _ => ?_⟩
  have T : Tops ⟨l.prog, w, K, mg, base⟩ :=
    { t_told_names := defAt_mk KX NG a1 l1 c1 k1 fun _ _ _ _ _ _ us hl => match us, hl with | [_], _ => rfl
      t_is_straight := defAt_mk KX NG a2 l2 c2 k2 fun _ _ _ _ _ _ us hl => match us, hl with | [_], _ => rfl
      t_law_state := defAt_mk KX NG a3 l3 c3 k3 fun _ _ _ _ _ _ us hl => match us, hl with | [_, _], _ => rfl
      t_law_next := defAt_mk KX NG a4 l4 c4 k4 fun _ _ _ _ _ _ us hl => match us, hl with | [_, _], _ => rfl
      t_law_fresh := defAt_mk KX NG a5 l5 c5 k5 fun _ _ _ _ _ _ us hl => match us, hl with | [_, _], _ => rfl
      t_law_words := defAt_mk KX NG a6 l6 c6 k6 fun _ _ _ _ _ _ us hl => match us, hl with | [_, _], _ => rfl
      t_law_told := defAt_mk KX NG a7 l7 c7 k7 fun _ _ _ _ _ _ us hl => match us, hl with | [_, _, _, _, _, _], _ => rfl
      t_law_mostly := defAt_mk KX NG a8 l8 c8 k8 fun _ _ _ _ _ _ us hl => match us, hl with | [_, _, _, _, _], _ => rfl
      t_law_term := defAt_mk KX NG a9 l9 c9 k9 fun _ _ _ _ _ _ us hl => match us, hl with | [_, _], _ => rfl
      t_law_due := defAt_mk KX NG a10 l10 c10 k10 fun _ _ _ _ _ _ us hl => match us, hl with | [_], _ => rfl
      t_law_right := defAt_mk KX NG a11 l11 c11 k11 fun _ _ _ _ _ _ us hl => match us, hl with | [_, _], _ => rfl
      t_law_within := defAt_mk KX NG a12 l12 c12 k12 fun _ _ _ _ _ _ us hl => match us, hl with | [_], _ => rfl
      t_law_good := defAt_mk KX NG a13 l13 c13 k13 fun _ _ _ _ _ _ us hl => match us, hl with | [_, _], _ => rfl
      t_law := defAt_mk KX NG a14 l14 c14 k14 fun _ _ _ _ _ _ us hl => match us, hl with | [_], _ => rfl
      m_all := PySem.W.mg_none_of KX NG z_all
      m_bool := PySem.W.mg_none_of KX NG z_bool
      m_divmod := PySem.W.mg_none_of KX NG z_divmod
      m_enumerate := PySem.W.mg_none_of KX NG z_enumerate
      m_int := PySem.W.mg_none_of KX NG z_int
      m_isinstance := PySem.W.mg_none_of KX NG z_isinstance
      m_len := PySem.W.mg_none_of KX NG z_len
      m_list := PySem.W.mg_none_of KX NG z_list
      m_min := PySem.W.mg_none_of KX NG z_min
      m_range := PySem.W.mg_none_of KX NG z_range
      m_set := PySem.W.mg_none_of KX NG z_set
      m_tuple := PySem.W.mg_none_of KX NG z_tuple }
  exact (d_law T _ _ FL).imp fun vs H Q Ex h => h mg
theorem walk_end {l : PySem.W.OpenLaw} {q : Program} {loose : List Str} {XP : (Str → Option Value) → Heap → Prop} {YP : World → Heap → Prop} {d : DefRec} {K : Params → PySem.W.Frag} (hn : l.most = some 63) (hdf : d.params.defaults = [])
    (hY : ∀ (w : World) (h : Heap), YP w h → (K w.params).In h)
    (F : ∀ (w : World) (mg : Str → Option Value) (fa : Addr) (h : Heap), (K w.params).In h → h.Ns mainGlobals mg → mg d.name = some (.ref fa) →
      ∃ fd : FuncData, (∀ (s : Shared) (u : Value), BindsTo s fd ⟨[u], []⟩ [("_law_script", u)]) ∧ ∀ base : Heap, (K w.params).In base → base.Ns mainGlobals mg → FnOk l.prog w (K w.params) mg base (L2.CX l.prog w) 15 fa fd ["_law_script"] (spTop (K w.params) f_law)) :
    PySem.W.WalkO q loose XP YP l.row.toRowW d [] (fun f vs => PySem.call f vs) :=
  L2.walk_of (n := 63) (k := 15) (x := "_law_script") (CX := fun w => L2.CX l.prog w) (sp := fun w => spTop (K w.params) f_law) hn (by decide) hdf ⟨rfl, by decide, by decide⟩ hY F (fun w H a ns hl _ hS mg => law_sp (fun ms hm => law_end ms hm) H a ns hl hS) fun w H s e s' z => CX_false z
end HF
open PySem PySem.W PyProof.Rows
set_option maxHeartbeats 0 in
theorem PySem.Challenge.cw_holeform_k24_straight_holds : PySem.Challenge.rw_holeform_k24_straight.Holds := by
  w_on; o_law; k_head; (case hw => w_witness2); k_fill
  refine HF.walk_end (l := PySem.Challenge.rw_holeform_k24_straight) rfl rfl (fun w h Y => PySem.W.kIn_of Y) ?F
  case F =>
    intro w mg fa h KX NG ml
    refine' HF.tops_at KX NG ml ?a1 ?l1 ?c1 ?k1 ?a2 ?l2 ?c2 ?k2 ?a3 ?l3 ?c3 ?k3 ?a4 ?l4 ?c4 ?k4 ?a5 ?l5 ?c5 ?k5 ?a6 ?l6 ?c6 ?k6 ?a7 ?l7 ?c7 ?k7 ?a8 ?l8 ?c8 ?k8 ?a9 ?l9 ?c9 ?k9 ?a10 ?l10 ?c10 ?k10 ?a11 ?l11 ?c11 ?k11 ?a12 ?l12 ?c12 ?k12 ?a13 ?l13 ?c13 ?k13 ?a14 ?l14 ?c14 ?k14 ?z_all ?z_bool ?z_divmod ?z_enumerate ?z_int ?z_isinstance ?z_len ?z_list ?z_min ?z_range ?z_set ?z_tuple
    (case a1 => k_is); (case l1 => k_is); (case c1 => k_is); (case k1 => k_is)
    (case a2 => k_is); (case l2 => k_is); (case c2 => k_is); (case k2 => k_is)
    (case a3 => k_is); (case l3 => k_is); (case c3 => k_is); (case k3 => k_is)
    (case a4 => k_is); (case l4 => k_is); (case c4 => k_is); (case k4 => k_is)
    (case a5 => k_is); (case l5 => k_is); (case c5 => k_is); (case k5 => k_is)
    (case a6 => k_is); (case l6 => k_is); (case c6 => k_is); (case k6 => k_is)
    (case a7 => k_is); (case l7 => k_is); (case c7 => k_is); (case k7 => k_is)
    (case a8 => k_is); (case l8 => k_is); (case c8 => k_is); (case k8 => k_is)
    (case a9 => k_is); (case l9 => k_is); (case c9 => k_is); (case k9 => k_is)
    (case a10 => k_is); (case l10 => k_is); (case c10 => k_is); (case k10 => k_is)
    (case a11 => k_is); (case l11 => k_is); (case c11 => k_is); (case k11 => k_is)
    (case a12 => k_is); (case l12 => k_is); (case c12 => k_is); (case k12 => k_is)
    (case a13 => k_is); (case l13 => k_is); (case c13 => k_is); (case k13 => k_is)
    (case a14 => k_is); (case l14 => k_is); (case c14 => k_is); (case k14 => k_is)
    (case z_all => k_is)
    (case z_bool => k_is)
    (case z_divmod => k_is)
    (case z_enumerate => k_is)
    (case z_int => k_is)
    (case z_isinstance => k_is)
    (case z_len => k_is)
    (case z_list => k_is)
    (case z_min => k_is)
    (case z_range => k_is)
    (case z_set => k_is)
    (case z_tuple => k_is)

end
