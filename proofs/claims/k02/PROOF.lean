import PyProof.Rows.All
import Wide.All
import OpenK.AllK
import Wide.FinOn
import HandS.ForMost
import HandS.WordsExc
import HandS.TupAny
import HandS.IsInst
import HandS.Deep
import PySem.Challenge.RW_holeform_k02_least_scope
section
set_option Elab.async false
set_option linter.all false
set_option maxRecDepth 20000
set_option autoImplicit false
/-! HF1: values as trees, the state of a def as slots and cells, and what it means that a state of the hand layer bears them. -/
namespace HF
open PySem PySem.Spec PyProof.Rows L2

/-- a value: tuples, lists and dicts that never change any more are told by what they hold -/
inductive PV where
  | non
  | bl (b : Bool)
  | int (i : Int)
  | str (x : Str)
  | tup (xs : List PV)
  | lst (xs : List PV)
  | dct (ks : List Key) (xs : List PV)
  | ref (r : Nat)
  | con (a : Addr)
  | rol (xs : List PV)
/-- a thing that may change -/
inductive PO where
  | lst (xs : List PV)
  | dct (ks : List Key) (xs : List PV)
  | ins (C : Addr) (ns : List Str) (xs : List PV)
/-- ghosts: the frozen addresses; where the cells stand -/
structure Gh where
  F : Addr → Prop
  al : List Addr
/-- the kinds that are read -/
def Plain : HO → Prop
  | .lst _ => True
  | .tup _ => True
  | .dK _ => True
  | _ => False
def noHp : Hp := fun _ => none
section
variable (K : PySem.W.Frag) (G : Gh) (H : Hp)
def FzL (a : Addr) (us : List V) : Prop := us.length ≤ sizeLine ∧ ((G.F a ∧ Rd H a (.lst us)) ∨ SqL K noHp a us)
def FzT (a : Addr) (us : List V) : Prop := us.length ≤ sizeLine ∧ ((G.F a ∧ Rd H a (.tup us)) ∨ SqT K noHp a us)
mutual
def RepV : PV → V → Prop
  | .non, v => v = .non
  | .bl b, v => v = .bl b
  | .int i, v => v = .int i
  | .str x, v => v = .str x
  | .tup xs, v => ∃ a us, v = .ref a ∧ FzT K G H a us ∧ RepVs xs us
  | .lst xs, v => ∃ a us, v = .ref a ∧ (us.length ≤ sizeLine ∧ G.F a ∧ Rd H a (.lst us)) ∧ RepVs xs us
  | .dct ks xs, v => ∃ a kvs, v = .ref a ∧ (G.F a ∧ Rd H a (.dK kvs)) ∧ kvs.length ≤ sizeLine ∧ kvs.map (·.1) = ks ∧ RepVs xs (kvs.map (·.2))
  | .ref r, v => ∃ a, v = .ref a ∧ G.al[r]? = some a
  | .con a, v => v = .ref a
  | .rol xs, v => ∃ a us, v = .ref a ∧ FzL K G H a us ∧ RepVs xs us
def RepVs : List PV → List V → Prop
  | [], us => us = []
  | x :: xs, us => ∃ u ws, us = u :: ws ∧ RepV x u ∧ RepVs xs ws
end
def RepO : PO → HO → Prop
  | .lst xs, o => ∃ us, o = .lst us ∧ us.length ≤ sizeLine ∧ RepVs K G H xs us
  | .dct ks xs, o => ∃ kvs, o = .dK kvs ∧ kvs.length ≤ sizeLine ∧ kvs.map (·.1) = ks ∧ RepVs K G H xs (kvs.map (·.2))
  | .ins C ns xs, o => ∃ dx fs, o = .ins C dx fs ∧ fs.map (·.1) = ns ∧ RepVs K G H xs (fs.map (·.2))
end

/-- what later states keep of values -/
structure Ext (G : Gh) (H : Hp) (G' : Gh) (H' : Hp) : Prop where
  f : ∀ a, G.F a → G'.F a
  rd : ∀ a u, G.F a → Plain u → Rd H a u → Rd H' a u
  al : ∀ (r : Nat) (a : Addr), G.al[r]? = some a → G'.al[r]? = some a
theorem Ext.refl (G : Gh) (H : Hp) : Ext G H G H := ⟨fun _ h => h, fun _ _ _ _ h => h, fun _ _ h => h⟩
theorem Ext.trans {G0 G1 G2 : Gh} {H0 H1 H2 : Hp} (x : Ext G0 H0 G1 H1) (y : Ext G1 H1 G2 H2) : Ext G0 H0 G2 H2 :=
  ⟨fun a h => y.f a (x.f a h), fun a u h p r => y.rd a u (x.f a h) p (x.rd a u h p r), fun r a h => y.al r a (x.al r a h)⟩

section
variable {K : PySem.W.Frag} {G G' : Gh} {H H' : Hp}
theorem FzL.mono (x : Ext G H G' H') {a : Addr} {us : List V} (h : FzL K G H a us) : FzL K G' H' a us :=
  ⟨h.1, h.2.imp (fun ⟨f, r⟩ => ⟨x.f a f, x.rd a _ f trivial r⟩) id⟩
theorem FzT.mono (x : Ext G H G' H') {a : Addr} {us : List V} (h : FzT K G H a us) : FzT K G' H' a us :=
  ⟨h.1, h.2.imp (fun ⟨f, r⟩ => ⟨x.f a f, x.rd a _ f trivial r⟩) id⟩
theorem FzL.sq {a : Addr} {us : List V} (h : FzL K G H a us) : SqL K H a us := by
  rcases h.2 with ⟨_, r⟩ | r
  · exact .inl r
  · rcases r with (r | ⟨o, r⟩) | r
    · cases r
    · cases r
    · exact .inr r
theorem FzT.sq {a : Addr} {us : List V} (h : FzT K G H a us) : SqT K H a us := by
  rcases h.2 with ⟨_, r⟩ | r
  · exact .inl r
  · rcases r with (r | ⟨o, r⟩) | r
    · cases r
    · cases r
    · exact .inr r
mutual
theorem RepV.mono (x : Ext G H G' H') : ∀ (p : PV) (v : V), RepV K G H p v → RepV K G' H' p v
  | .non, v, h => h
  | .bl b, v, h => h
  | .int i, v, h => h
  | .str s, v, h => h
  | .tup xs, v, h => by
    simp only [RepV] at h ⊢
    obtain ⟨a, us, e, f, r⟩ := h
    exact ⟨a, us, e, f.mono x, RepVs.mono x xs us r⟩
  | .lst xs, v, h => by
    simp only [RepV] at h ⊢
    obtain ⟨a, us, e, ⟨f0, f1, f2⟩, r⟩ := h
    exact ⟨a, us, e, ⟨f0, x.f a f1, x.rd a _ f1 trivial f2⟩, RepVs.mono x xs us r⟩
  | .rol xs, v, h => by
    simp only [RepV] at h ⊢
    obtain ⟨a, us, e, f, r⟩ := h
    exact ⟨a, us, e, f.mono x, RepVs.mono x xs us r⟩
  | .dct ks xs, v, h => by
    simp only [RepV] at h ⊢
    obtain ⟨a, us, e, ⟨f1, f2⟩, z, k, r⟩ := h
    exact ⟨a, us, e, ⟨x.f a f1, x.rd a _ f1 trivial f2⟩, z, k, RepVs.mono x xs _ r⟩
  | .ref r, v, h => by
    simp only [RepV] at h ⊢
    obtain ⟨a, e, q⟩ := h
    exact ⟨a, e, x.al r a q⟩
  | .con a, v, h => h
theorem RepVs.mono (x : Ext G H G' H') : ∀ (ps : List PV) (vs : List V), RepVs K G H ps vs → RepVs K G' H' ps vs
  | [], vs, h => h
  | p :: ps, vs, h => by
    simp only [RepVs] at h ⊢
    obtain ⟨u, ws, e, r, rs⟩ := h
    exact ⟨u, ws, e, RepV.mono x p u r, RepVs.mono x ps ws rs⟩
end
theorem RepO.mono (x : Ext G H G' H') {o : PO} {u : HO} (h : RepO K G H o u) : RepO K G' H' o u := by
  cases o with
  | lst xs => obtain ⟨us, e, z, r⟩ := h; exact ⟨us, e, z, RepVs.mono x _ _ r⟩
  | dct ks xs => obtain ⟨us, e, z, k, r⟩ := h; exact ⟨us, e, z, k, RepVs.mono x _ _ r⟩
  | ins C ns xs => obtain ⟨dx, us, e, k, r⟩ := h; exact ⟨dx, us, e, k, RepVs.mono x _ _ r⟩
theorem RepVs.nil_iff {vs : List V} : RepVs K G H [] vs ↔ vs = [] := by simp only [RepVs]
theorem RepVs.cons_iff {p : PV} {ps : List PV} {vs : List V} : RepVs K G H (p :: ps) vs ↔ ∃ u ws, vs = u :: ws ∧ RepV K G H p u ∧ RepVs K G H ps ws := by simp only [RepVs]
theorem RepVs.nil : RepVs K G H [] [] := RepVs.nil_iff.mpr rfl
theorem RepVs.cons {p : PV} {ps : List PV} {v : V} {vs : List V} (h : RepV K G H p v) (t : RepVs K G H ps vs) : RepVs K G H (p :: ps) (v :: vs) := RepVs.cons_iff.mpr ⟨v, vs, rfl, h, t⟩
theorem RepVs.length : ∀ {ps : List PV} {vs : List V}, RepVs K G H ps vs → ps.length = vs.length
  | [], vs, h => by rw [RepVs.nil_iff.mp h]; rfl
  | p :: ps, vs, h => by
    obtain ⟨u, ws, rfl, _, t⟩ := RepVs.cons_iff.mp h
    simp [RepVs.length t]
theorem RepVs.append : ∀ {ps qs : List PV} {vs ws : List V}, RepVs K G H ps vs → RepVs K G H qs ws → RepVs K G H (ps ++ qs) (vs ++ ws)
  | [], qs, vs, ws, h, g => by rw [RepVs.nil_iff.mp h]; exact g
  | p :: ps, qs, vs, ws, h, g => by
    obtain ⟨u, us, rfl, r, t⟩ := RepVs.cons_iff.mp h
    exact RepVs.cons r (RepVs.append t g)
theorem RepVs.get : ∀ {ps : List PV} {vs : List V} {i : Nat} {p : PV}, RepVs K G H ps vs → ps[i]? = some p → ∃ v, vs[i]? = some v ∧ RepV K G H p v
  | [], vs, i, p, h, e => by simp at e
  | q :: ps, vs, i, p, h, e => by
    obtain ⟨u, us, rfl, r, t⟩ := RepVs.cons_iff.mp h
    cases i with
    | zero => simp at e; subst e; exact ⟨u, rfl, r⟩
    | succ i => exact RepVs.get (i := i) t (by simpa using e)
theorem RepVs.getV : ∀ {ps : List PV} {vs : List V} {i : Nat} {v : V}, RepVs K G H ps vs → vs[i]? = some v → ∃ p, ps[i]? = some p ∧ RepV K G H p v
  | [], vs, i, p, h, e => by rw [RepVs.nil_iff.mp h] at e; simp at e
  | q :: ps, vs, i, p, h, e => by
    obtain ⟨u, us, rfl, r, t⟩ := RepVs.cons_iff.mp h
    cases i with
    | zero => simp at e; subst e; exact ⟨q, rfl, r⟩
    | succ i => exact RepVs.getV (i := i) t (by simpa using e)
theorem RepVs.take : ∀ {ps : List PV} {vs : List V} (n : Nat), RepVs K G H ps vs → RepVs K G H (ps.take n) (vs.take n)
  | ps, vs, 0, h => by simpa using RepVs.nil
  | [], vs, n + 1, h => by rw [RepVs.nil_iff.mp h]; simpa using RepVs.nil
  | p :: ps, vs, n + 1, h => by
    obtain ⟨u, us, rfl, r, t⟩ := RepVs.cons_iff.mp h
    exact RepVs.cons r (RepVs.take n t)
theorem RepVs.drop : ∀ {ps : List PV} {vs : List V} (n : Nat), RepVs K G H ps vs → RepVs K G H (ps.drop n) (vs.drop n)
  | ps, vs, 0, h => by simpa using h
  | [], vs, n + 1, h => by rw [RepVs.nil_iff.mp h]; simpa using RepVs.nil
  | p :: ps, vs, n + 1, h => by
    obtain ⟨u, us, rfl, r, t⟩ := RepVs.cons_iff.mp h
    exact RepVs.drop n t
theorem RepVs.set : ∀ {ps : List PV} {vs : List V} {p : PV} {v : V} (i : Nat), RepVs K G H ps vs → RepV K G H p v → RepVs K G H (ps.set i p) (vs.set i v)
  | [], vs, p, v, i, h, _ => by rw [RepVs.nil_iff.mp h]; exact RepVs.nil
  | q :: ps, vs, p, v, i, h, k => by
    obtain ⟨u, us, rfl, r, t⟩ := RepVs.cons_iff.mp h
    cases i with
    | zero => exact RepVs.cons k t
    | succ i => exact RepVs.cons r (RepVs.set i t k)
theorem RepVs.eraseIdx : ∀ {ps : List PV} {vs : List V} (i : Nat), RepVs K G H ps vs → RepVs K G H (ps.eraseIdx i) (vs.eraseIdx i)
  | [], vs, i, h => by rw [RepVs.nil_iff.mp h]; exact RepVs.nil
  | q :: ps, vs, i, h => by
    obtain ⟨u, us, rfl, r, t⟩ := RepVs.cons_iff.mp h
    cases i with
    | zero => exact t
    | succ i => exact RepVs.cons r (RepVs.eraseIdx i t)
theorem RepVs.reverse : ∀ {ps : List PV} {vs : List V}, RepVs K G H ps vs → RepVs K G H ps.reverse vs.reverse
  | [], vs, h => by rw [RepVs.nil_iff.mp h]; exact RepVs.nil
  | q :: ps, vs, h => by
    obtain ⟨u, us, rfl, r, t⟩ := RepVs.cons_iff.mp h
    rw [List.reverse_cons, List.reverse_cons]
    exact (RepVs.reverse t).append (RepVs.cons r RepVs.nil)
theorem RepVs.snoc {ps : List PV} {vs : List V} {p : PV} {v : V} (h : RepVs K G H ps vs) (k : RepV K G H p v) : RepVs K G H (ps ++ [p]) (vs ++ [v]) := h.append (RepVs.cons k RepVs.nil)
theorem RepVs.dropLast {ps : List PV} {vs : List V} (h : RepVs K G H ps vs) : RepVs K G H ps.dropLast vs.dropLast := by
  rw [List.dropLast_eq_take, List.dropLast_eq_take, h.length]
  exact h.take _
end

/-- a slot: a value, or a thing that this slot alone holds -/
inductive LV where
  | v (p : PV)
  | own (o : PO)
/-- slots and cells -/
structure Mem where
  r : List (Option LV)
  h : List PO
/-- the entry of a def -/
structure Ent where
  G : Gh
  H : Hp
structure HpRep (K : PySem.W.Frag) (G : Gh) (h : List PO) (H : Hp) : Prop where
  fdom : ∀ a, G.F a → H a ≠ none
  nd : G.al.Nodup
  len : h.length = G.al.length
  obj : ∀ (r : Nat) (a : Addr) (o : PO), G.al[r]? = some a → h[r]? = some o → ¬ G.F a ∧ ∃ u, H a = some u ∧ RepO K G H o u
structure Post (G0 : Gh) (H0 : Hp) (G : Gh) (H : Hp) : Prop where
  f : ∀ a, G0.F a → G.F a
  fnew : ∀ a, G.F a → G0.F a ∨ H0 a = none
  al : ∃ l, G.al = G0.al ++ l ∧ ∀ a ∈ l, H0 a = none
  keep : ∀ a u, H0 a = some u → a ∉ G0.al → ¬ G0.F a → H a = some u
  rd : ∀ a u, G0.F a → Plain u → Rd H0 a u → Rd H a u
  dom : ∀ a, H a = none → H0 a = none
theorem Post.refl (G : Gh) (H : Hp) : Post G H G H := ⟨fun _ h => h, fun _ h => .inl h, ⟨[], by simp, by simp⟩, fun _ _ h _ _ => h, fun _ _ _ _ h => h, fun _ h => h⟩
theorem Post.ext {G0 : Gh} {H0 : Hp} {G : Gh} {H : Hp} (p : Post G0 H0 G H) : Ext G0 H0 G H := by
  refine ⟨p.f, p.rd, fun r a h => ?_⟩
  obtain ⟨l, e, _⟩ := p.al
  rw [e, List.getElem?_append_left (List.getElem?_eq_some_iff.mp h).1]
  exact h
theorem Post.noal {G0 : Gh} {H0 : Hp} {G : Gh} {H : Hp} (p : Post G0 H0 G H) {a : Addr} {u : HO} (h : H0 a = some u) (n : a ∉ G0.al) : a ∉ G.al := by
  obtain ⟨l, e, q⟩ := p.al
  rw [e, List.mem_append]
  rintro (z | z)
  · exact n z
  · rw [q a z] at h; cases h
theorem Post.nof {G0 : Gh} {H0 : Hp} {G : Gh} {H : Hp} (p : Post G0 H0 G H) {a : Addr} {u : HO} (h : H0 a = some u) (n : ¬ G0.F a) : ¬ G.F a := fun z => by
  rcases p.fnew a z with z | z
  · exact n z
  · rw [z] at h; cases h
theorem Post.trans {G0 G1 G2 : Gh} {H0 H1 H2 : Hp} (p : Post G0 H0 G1 H1) (q : Post G1 H1 G2 H2) : Post G0 H0 G2 H2 := by
  refine ⟨fun a h => q.f a (p.f a h), fun a h => ?_, ?_, fun a u h n m => ?_, fun a u h pl r => q.rd a u (p.f a h) pl (p.rd a u h pl r), fun a h => p.dom a (q.dom a h)⟩
  · rcases q.fnew a h with z | z
    · exact p.fnew a z
    · exact .inr (p.dom a z)
  · obtain ⟨l, e, x⟩ := p.al
    obtain ⟨l', e', x'⟩ := q.al
    refine ⟨l ++ l', by rw [e', e, List.append_assoc], fun a ha => ?_⟩
    rcases List.mem_append.mp ha with z | z
    · exact x a z
    · exact p.dom a (x' a z)
  · exact q.keep a u (p.keep a u h n m) (p.noal h n) (p.nof h m)

/-- an address that a slot alone holds -/
def OwnAt (r : List (Option LV)) (s : L2.St) (a : Addr) : Prop := ∃ (i : Nat) (o : PO), r[i]? = some (some (LV.own o)) ∧ s[i]? = some (some (V.ref a))
structure StRep (K : PySem.W.Frag) (E : Ent) (G : Gh) (M : Mem) (s : L2.St) (H : Hp) : Prop where
  post : Post E.G E.H G H
  hp : HpRep K G M.h H
  len : M.r.length = s.length
  slot : ∀ (i : Nat) (p : PV), M.r[i]? = some (some (.v p)) → ∃ u, s[i]? = some (some u) ∧ RepV K G H p u
  own : ∀ (i : Nat) (o : PO), M.r[i]? = some (some (.own o)) → ∃ a u, s[i]? = some (some (.ref a)) ∧ H a = some u ∧ RepO K G H o u ∧ E.H a = none ∧ ¬ G.F a ∧ a ∉ G.al
  sep : ∀ (i j : Nat) (o o' : PO) (a : Addr), M.r[i]? = some (some (.own o)) → M.r[j]? = some (some (.own o')) → s[i]? = some (some (.ref a)) → s[j]? = some (some (.ref a)) → i = j
/-- what an expression's run keeps -/
structure Evo (s : L2.St) (G : Gh) (M : Mem) (H : Hp) (G' : Gh) (M' : Mem) (H' : Hp) : Prop where
  ext : Ext G H G' H'
  keep : ∀ a u, H a = some u → a ∉ G.al → ¬ G.F a → ¬ OwnAt M.r s a → H' a = some u ∧ a ∉ G'.al ∧ ¬ G'.F a
  own : ∀ a, OwnAt M'.r s a → OwnAt M.r s a
  dom : ∀ a, H' a = none → H a = none
theorem Evo.refl (s : L2.St) (G : Gh) (M : Mem) (H : Hp) : Evo s G M H G M H := ⟨Ext.refl _ _, fun _ _ h a b c => ⟨h, a, b⟩, fun _ h => h, fun _ h => h⟩
theorem Evo.trans {s : L2.St} {G0 G1 G2 : Gh} {M0 M1 M2 : Mem} {H0 H1 H2 : Hp} (x : Evo s G0 M0 H0 G1 M1 H1) (y : Evo s G1 M1 H1 G2 M2 H2) : Evo s G0 M0 H0 G2 M2 H2 :=
  ⟨x.ext.trans y.ext, fun a u h n f o => by obtain ⟨h1, n1, f1⟩ := x.keep a u h n f o; exact y.keep a u h1 n1 f1 (fun z => o (x.own a z)), fun a h => x.own a (y.own a h), fun a h => x.dom a (y.dom a h)⟩

/-- what an expression gives: a value; a new thing that nothing else holds; the thing that a slot alone holds -/
inductive EV where
  | v (p : PV)
  | fr (o : PO)
  | sl (i : Nat)
/-- H0: the heap as the expression's run began -/
def RepE (K : PySem.W.Frag) (E : Ent) (H0 : Hp) (G : Gh) (M : Mem) (s : L2.St) (H : Hp) : EV → V → Prop
  | .v p, u => RepV K G H p u
  | .fr o, u => ∃ a w, u = .ref a ∧ H a = some w ∧ RepO K G H o w ∧ E.H a = none ∧ ¬ G.F a ∧ a ∉ G.al ∧ ¬ OwnAt M.r s a ∧ H0 a = none
  | .sl i, u => s[i]? = some (some u)
theorem RepE.evo {K : PySem.W.Frag} {E : Ent} {s : L2.St} {G G' : Gh} {M M' : Mem} {H0 H H' : Hp} (x : Evo s G M H G' M' H') : ∀ {e : EV} {u : V}, RepE K E H0 G M s H e u → RepE K E H0 G' M' s H' e u
  | .v p, u, h => RepV.mono x.ext p u h
  | .fr o, u, ⟨a, w, e, h, r, n, f, l, ow, z⟩ => by
    obtain ⟨h1, l1, f1⟩ := x.keep a w h l f ow
    exact ⟨a, w, e, h1, r.mono x.ext, n, f1, l1, fun y => ow (x.own a y), z⟩
  | .sl i, u, h => h
theorem RepE.old {K : PySem.W.Frag} {E : Ent} {s : L2.St} {G : Gh} {M : Mem} {H0 H1 H : Hp} (x : ∀ a, H1 a = none → H0 a = none) : ∀ {e : EV} {u : V}, RepE K E H1 G M s H e u → RepE K E H0 G M s H e u
  | .v p, u, h => h
  | .fr o, u, ⟨a, w, e, h, r, n, f, l, ow, z⟩ => ⟨a, w, e, h, r, n, f, l, ow, x a z⟩
  | .sl i, u, h => h
/-- a def's answer, seen by the caller -/
def RepR (K : PySem.W.Frag) (H0 : Hp) (G : Gh) (H : Hp) : EV → V → Prop
  | .v p, u => RepV K G H p u
  | .fr o, u => ∃ a w, u = .ref a ∧ H a = some w ∧ RepO K G H o w ∧ H0 a = none ∧ ¬ G.F a ∧ a ∉ G.al
  | .sl _, _ => False

/-! ### steps of the ghosts -/
section
variable {K : PySem.W.Frag} {E : Ent} {G : Gh} {M : Mem} {s : L2.St} {H : Hp}
theorem Rd.upd_ne {H : Hp} {a p : Addr} {o u : HO} (n : a ≠ p) (h : Rd H a u) : Rd (upd H p o) a u := by
  rcases h with h | ⟨x, h⟩
  · exact .inl (by rw [L2.upd_ne n]; exact h)
  · exact .inr ⟨x, by rw [L2.upd_ne n]; exact h⟩
theorem HpRep.nF (h : HpRep K G M.h H) {p : Addr} (hp : H p = none) : ¬ G.F p := fun z => h.fdom p z hp
theorem HpRep.nAl {hh : List PO} (h : HpRep K G hh H) {p : Addr} (hp : H p = none) : p ∉ G.al := fun z => by
  obtain ⟨r, hr⟩ := List.getElem?_of_mem z
  have hl : r < hh.length := by rw [h.len]; exact (List.getElem?_eq_some_iff.mp hr).1
  obtain ⟨_, u, e, _⟩ := h.obj r p hh[r] hr (List.getElem?_eq_getElem hl)
  rw [e] at hp; cases hp
/-- a write at an address that is not frozen: values stay -/
theorem ext_upd {p : Addr} {o : HO} (nf : ¬ G.F p) : Ext G H G (upd H p o) :=
  ⟨fun _ h => h, fun a u f _ r => Rd.upd_ne (fun e => nf (e ▸ f)) r, fun _ _ h => h⟩
theorem post_upd {G0 : Gh} {H0 : Hp} {p : Addr} {o : HO} (x : Post G0 H0 G H) (nf : ¬ G.F p) (h : p ∈ G.al ∨ H0 p = none) : Post G0 H0 G (upd H p o) := by
  refine ⟨x.f, x.fnew, x.al, fun a u e n m => ?_, fun a u f pl r => ?_, fun a e => ?_⟩
  · have ne : a ≠ p := fun z => by
      subst z
      rcases h with h | h
      · exact x.noal e n h
      · rw [h] at e; cases e
    rw [L2.upd_ne ne]
    exact x.keep a u e n m
  · exact Rd.upd_ne (fun z => nf (z ▸ x.f a f)) (x.rd a u f pl r)
  · by_cases z : a = p
    · subst z; rw [upd_same] at e; cases e
    · rw [L2.upd_ne z] at e
      exact x.dom a e
theorem hprep_upd {hh : List PO} {p : Addr} {o : HO} (x : HpRep K G hh H) (nf : ¬ G.F p) (na : p ∉ G.al) : HpRep K G hh (upd H p o) := by
  refine ⟨fun a f e => ?_, x.nd, x.len, fun r a ob e e' => ?_⟩
  · rw [L2.upd_ne (fun z => nf (by rw [← z]; exact f))] at e
    exact x.fdom a f e
  · obtain ⟨f, u, q, rr⟩ := x.obj r a ob e e'
    exact ⟨f, u, by rw [L2.upd_ne (fun z => na (by rw [← z]; exact List.mem_of_getElem? e))]; exact q, rr.mono (ext_upd nf)⟩
/-- a new object is laid -/
theorem StRep.laid (R : StRep K E G M s H) {p : Addr} (o : HO) (hp : H p = none) : StRep K E G M s (upd H p o) ∧ Evo s G M H G M (upd H p o) ∧ E.H p = none ∧ ¬ G.F p ∧ p ∉ G.al ∧ ¬ OwnAt M.r s p := by
  have nf := R.hp.nF hp
  have na := R.hp.nAl hp
  have eh := R.post.dom p hp
  have x := ext_upd (H := H) (o := o) nf
  refine ⟨⟨post_upd R.post nf (.inr eh), hprep_upd R.hp nf na, R.len, fun i q e => ?_, fun i ob e => ?_, R.sep⟩, ⟨x, fun a u e n f ow => ⟨?_, n, f⟩, fun _ h => h, fun a e => ?_⟩, eh, nf, na, fun ⟨i, ob, e, e'⟩ => ?_⟩
  · obtain ⟨u, h1, h2⟩ := R.slot i q e
    exact ⟨u, h1, RepV.mono x _ _ h2⟩
  · obtain ⟨a, u, h1, h2, h3, h4⟩ := R.own i ob e
    exact ⟨a, u, h1, by rw [L2.upd_ne (ne_of_none h2 hp)]; exact h2, h3.mono x, h4⟩
  · rw [L2.upd_ne (ne_of_none e hp)]; exact e
  · by_cases z : a = p
    · subst z; rw [upd_same] at e; cases e
    · rwa [L2.upd_ne z] at e
  · obtain ⟨a, u, h1, h2, _⟩ := R.own i ob e
    rw [h1] at e'
    cases e'
    rw [h2] at hp; cases hp
/-- the ghosts with one more frozen address -/
def Gh.fz (G : Gh) (p : Addr) : Gh := ⟨fun a => G.F a ∨ a = p, G.al⟩
theorem Gh.ext_fz (G : Gh) (H : Hp) (p : Addr) : Ext G H (G.fz p) H := ⟨fun _ h => .inl h, fun _ _ _ _ h => h, fun _ _ h => h⟩
/-- freezing what nothing holds but a value to be -/
theorem StRep.frozen (R : StRep K E G M s H) {p : Addr} {u : HO} (hp : H p = some u) (eh : E.H p = none) (na : p ∉ G.al) (no : ¬ OwnAt M.r s p) : StRep K E (G.fz p) M s H := by
  have x := G.ext_fz H p
  refine ⟨⟨fun a h => .inl (R.post.f a h), fun a h => ?_, R.post.al, R.post.keep, R.post.rd, R.post.dom⟩, ⟨fun a h => ?_, R.hp.nd, R.hp.len, fun r a o e e' => ?_⟩, R.len, fun i q e => ?_, fun i o e => ?_, R.sep⟩
  · rcases h with h | h
    · exact R.post.fnew a h
    · exact .inr (h ▸ eh)
  · rcases h with h | h
    · exact R.hp.fdom a h
    · rw [h, hp]; intro z; cases z
  · obtain ⟨f, w, q, rr⟩ := R.hp.obj r a o e e'
    refine ⟨fun z => z.elim f fun z => na (z ▸ List.mem_of_getElem? e), w, q, rr.mono x⟩
  · obtain ⟨w, h1, h2⟩ := R.slot i q e
    exact ⟨w, h1, RepV.mono x _ _ h2⟩
  · obtain ⟨a, w, h1, h2, h3, h4, h5, h6⟩ := R.own i o e
    exact ⟨a, w, h1, h2, h3.mono x, h4, fun z => z.elim h5 fun z => no ⟨i, o, e, z ▸ h1⟩, h6⟩
theorem Evo.frozen {G0 : Gh} {M0 : Mem} {H0 : Hp} (x : Evo s G0 M0 H0 G M H) {p : Addr} (h : H0 p = none ∨ OwnAt M0.r s p) : Evo s G0 M0 H0 (G.fz p) M H := by
  refine ⟨x.ext.trans (G.ext_fz H p), fun a u e n f o => ?_, x.own, x.dom⟩
  obtain ⟨h1, h2, h3⟩ := x.keep a u e n f o
  refine ⟨h1, h2, fun z => z.elim h3 fun z => ?_⟩
  subst z
  rcases h with h | h
  · rw [h] at e; cases e
  · exact o h
/-- slots are forgotten, or told by less -/
theorem StRep.slots (R : StRep K E G M s H) {r' : List (Option LV)} (hl : r'.length = M.r.length) (h : ∀ (i : Nat) (x : LV), r'[i]? = some (some x) → M.r[i]? = some (some x) ∨ ∃ p u, x = .v p ∧ s[i]? = some (some u) ∧ RepV K G H p u) :
    StRep K E G ⟨r', M.h⟩ s H := by
  refine ⟨R.post, R.hp, hl.trans R.len, fun i q e => ?_, fun i o e => ?_, fun i j o o' a e e' => ?_⟩
  · rcases h i _ e with z | ⟨p, u, z, e1, e2⟩
    · exact R.slot i q z
    · cases z; exact ⟨u, e1, e2⟩
  · rcases h i _ e with z | ⟨p, u, z, e1, e2⟩
    · exact R.own i o z
    · cases z
  · rcases h i _ e with z | ⟨p, u, z, e1, e2⟩
    · rcases h j _ e' with z' | ⟨p', u', z', e1', e2'⟩
      · exact R.sep i j o o' a z z'
      · cases z'
    · cases z
/-- the thing of a slot is written -/
theorem StRep.wrote (R : StRep K E G M s H) {i : Nat} {o o' : PO} {a : Addr} {u' : HO} (hi : M.r[i]? = some (some (.own o))) (hs : s[i]? = some (some (.ref a))) (ho : RepO K G H o' u') :
    StRep K E G ⟨M.r.set i (some (.own o')), M.h⟩ s (upd H a u') ∧ Evo s G M H G ⟨M.r.set i (some (.own o')), M.h⟩ (upd H a u') := by
  obtain ⟨b, w, h1, h2, h3, h4, h5, h6⟩ := R.own i o hi
  have eb : b = a := by rw [hs] at h1; cases h1; rfl
  subst eb
  have x := ext_upd (H := H) (o := u') h5
  have lt : i < M.r.length := (List.getElem?_eq_some_iff.mp hi).1
  have isown : ∀ (j : Nat) (o2 : PO), (M.r.set i (some (.own o')))[j]? = some (some (.own o2)) → ∃ o3, M.r[j]? = some (some (.own o3)) := fun j o2 e => by
    by_cases z : i = j
    · subst z; exact ⟨o, hi⟩
    · rw [List.getElem?_set_ne z] at e; exact ⟨o2, e⟩
  refine ⟨⟨post_upd R.post h5 (.inr h4), hprep_upd R.hp h5 h6, by simp [R.len], fun j q e => ?_, fun j ob e => ?_, fun j k o1 o2 c e e' => ?_⟩, ⟨x, fun c v e n f ow => ⟨?_, n, f⟩, fun c ⟨j, o2, e, e'⟩ => ?_, fun c e => ?_⟩⟩
  · by_cases z : i = j
    · subst z; rw [List.getElem?_set_self lt] at e; cases e
    · rw [List.getElem?_set_ne z] at e
      obtain ⟨v, k1, k2⟩ := R.slot j q e
      exact ⟨v, k1, RepV.mono x _ _ k2⟩
  · by_cases z : i = j
    · subst z; rw [List.getElem?_set_self lt] at e; cases e
      exact ⟨b, u', hs, upd_same, ho.mono x, h4, h5, h6⟩
    · rw [List.getElem?_set_ne z] at e
      obtain ⟨c, v, k1, k2, k3, k4⟩ := R.own j ob e
      have ne : c ≠ b := fun y => z (R.sep i j o ob b hi e hs (y ▸ k1))
      exact ⟨c, v, k1, by rw [L2.upd_ne ne]; exact k2, k3.mono x, k4⟩
  · obtain ⟨o3, e3⟩ := isown j o1 e
    obtain ⟨o4, e4⟩ := isown k o2 e'
    exact R.sep j k o3 o4 c e3 e4
  · rw [L2.upd_ne (fun (z : c = b) => ow ⟨i, o, hi, by rw [z]; exact hs⟩)]; exact e
  · obtain ⟨o3, e3⟩ := isown j o2 e
    exact ⟨j, o3, e3, e'⟩
  · by_cases z : c = b
    · subst z; rw [upd_same] at e; cases e
    · rwa [L2.upd_ne z] at e
/-- a cell is written -/
theorem StRep.celled (R : StRep K E G M s H) {r : Nat} {o o' : PO} {a : Addr} {u' : HO} (hr : M.h[r]? = some o) (ha : G.al[r]? = some a) (ho : RepO K G H o' u') :
    StRep K E G ⟨M.r, M.h.set r o'⟩ s (upd H a u') ∧ Evo s G M H G ⟨M.r, M.h.set r o'⟩ (upd H a u') := by
  obtain ⟨nf, w, h1, h2⟩ := R.hp.obj r a o ha hr
  have x := ext_upd (H := H) (o := u') nf
  have am : a ∈ G.al := List.mem_of_getElem? ha
  have lt : r < M.h.length := (List.getElem?_eq_some_iff.mp hr).1
  have uniq : ∀ (j : Nat), G.al[j]? = some a → j = r := fun j e => nd_ix R.hp.nd e ha
  refine ⟨⟨post_upd R.post nf (.inl am), ⟨fun b f e => ?_, R.hp.nd, by simp [R.hp.len], fun j b ob e e' => ?_⟩, R.len, fun j q e => ?_, fun j ob e => ?_, R.sep⟩, ⟨x, fun c v e n f ow => ⟨?_, n, f⟩, fun c h => h, fun c e => ?_⟩⟩
  · rw [L2.upd_ne (fun z => nf (by rw [← z]; exact f))] at e
    exact R.hp.fdom b f e
  · by_cases z : r = j
    · subst z
      rw [ha] at e; cases e
      rw [List.getElem?_set_self lt] at e'; cases e'
      exact ⟨nf, u', upd_same, ho.mono x⟩
    · rw [List.getElem?_set_ne z] at e'
      obtain ⟨f, v, k1, k2⟩ := R.hp.obj j b ob e e'
      have ne : b ≠ a := fun y => z (uniq j (y ▸ e)).symm
      exact ⟨f, v, by rw [L2.upd_ne ne]; exact k1, k2.mono x⟩
  · obtain ⟨v, k1, k2⟩ := R.slot j q e
    exact ⟨v, k1, RepV.mono x _ _ k2⟩
  · obtain ⟨c, v, k1, k2, k3, k4, k5, k6⟩ := R.own j ob e
    have ne : c ≠ a := fun y => k6 (y ▸ am)
    exact ⟨c, v, k1, by rw [L2.upd_ne ne]; exact k2, k3.mono x, k4, k5, k6⟩
  · rw [L2.upd_ne (fun (z : c = a) => n (by rw [z]; exact am))]; exact e
  · by_cases z : c = a
    · subst z; rw [upd_same] at e; cases e
    · rwa [L2.upd_ne z] at e
end
end HF

end
section
set_option Elab.async false
set_option linter.all false
set_option maxRecDepth 20000
set_option autoImplicit false
/-! HF2: what runs give, as functions of slots and cells; the judgements; names, operators, calls of what is built in. -/
namespace HF
open PySem PySem.Spec PyProof.Rows L2

inductive Res (α : Type) where
  | ok (a : α) (M : Mem)
  | exn (c : Str) (M : Mem)
  | bad
@[simp] def Res.bnd {α β : Type} (x : Res α) (f : α → Mem → Res β) : Res β := match x with
  | .ok a M => f a M
  | .exn c M => .exn c M
  | .bad => .bad
abbrev Sm (α : Type) := Mem → Res α

section
variable (X : Cx) (E : Ent) (W : WX)
/-- what is asked of a run's end -/
def OutP {α : Type} (s : L2.St) (G : Gh) (M : Mem) (H : Hp) (r : Res α) (k : Gh → Mem → Hp → α → Prop) : Prop := match r with
  | .ok a M' => ∀ G' H', Evo s G M H G' M' H' → StRep X.K E G' M' s H' → k G' M' H' a
  | .exn c M' => ∀ G' H' C, StRep X.K E G' M' s H' → X.mg c = some (.ref C) → W (.ref C) none s H'
  | .bad => False
def tE (f : Sm EV) : TE := fun s H Q => ∃ G M, StRep X.K E G M s H ∧ OutP X E W s G M H (f M) fun G' M' H' ev => ∀ u, RepE X.K E H G' M' s H' ev u → Q u H'
def tP (f : Sm PV) : TE := fun s H Q => ∃ G M, StRep X.K E G M s H ∧ OutP X E W s G M H (f M) fun G' _ H' p => ∀ u, RepV X.K G' H' p u → Q u H'
def tB' (f : Sm Bool) : TT := fun s H Q => ∃ G M, StRep X.K E G M s H ∧ OutP X E W s G M H (f M) fun _ _ H' b => Q b H'
def tL (f : Sm (List PV)) : TA := fun s H Q => ∃ G M, StRep X.K E G M s H ∧ OutP X E W s G M H (f M) fun G' _ H' ps => ∀ us, RepVs X.K G' H' ps us → Q us H'
structure FE (e : Expr) (f : Sm EV) : Prop where
  pe : PE X e (tE X E W f)
structure FP (e : Expr) (f : Sm PV) : Prop where
  pe : PE X e (tP X E W f)
structure FT (e : Expr) (f : Sm Bool) : Prop where
  pe : PT X e (tB' X E W f)
structure FW (e : Expr) (f : Sm Bool) : Prop where
  pe : PW X e (tB' X E W f)
structure FA (es : List Expr) (f : Sm (List PV)) : Prop where
  pe : PA X es (tL X E W f)
end
section
variable {X : Cx} {E : Ent} {W : WX}
theorem OutP.imp {α : Type} {s : L2.St} {G : Gh} {M : Mem} {H : Hp} {r : Res α} {k k' : Gh → Mem → Hp → α → Prop} (h : OutP X E W s G M H r k)
    (i : ∀ G' M' H' a, Evo s G M H G' M' H' → StRep X.K E G' M' s H' → k G' M' H' a → k' G' M' H' a) : OutP X E W s G M H r k' := by
  cases r with
  | ok a M' => exact fun G' H' V R => i G' M' H' a V R (h G' H' V R)
  | exn c M' => exact h
  | bad => exact h
/-- two runs in a row -/
theorem OutP.bnd {α β : Type} {s : L2.St} {G : Gh} {M : Mem} {H : Hp} {r : Res α} {f : α → Mem → Res β} {k : Gh → Mem → Hp → β → Prop} (h : OutP X E W s G M H (r.bnd f) k) :
    OutP X E W s G M H r fun G1 M1 H1 a => OutP X E W s G1 M1 H1 (f a M1) k := by
  cases r with
  | ok a M' =>
    intro G1 H1 V1 R1
    have h : OutP X E W s G M H (f a M') k := h
    show OutP X E W s G1 M' H1 (f a M') k
    generalize f a M' = q at h
    cases q with
    | ok b M2 => exact fun G2 H2 V2 R2 => h G2 H2 (V1.trans V2) R2
    | exn c M2 => exact h
    | bad => exact h
  | exn c M' => exact h
  | bad => exact h
theorem PE.weak {e : Expr} {t t' : TE} (h : PE X e t) (i : ∀ s H Q, t' s H Q → t s H Q) : PE X e t' := ⟨fun pins s σ H Q I q => h.run pins s σ H Q I (i _ _ _ q)⟩
theorem PT.weak {e : Expr} {t t' : TT} (h : PT X e t) (i : ∀ s H Q, t' s H Q → t s H Q) : PT X e t' := ⟨fun pins s σ H Q I q => h.run pins s σ H Q I (i _ _ _ q)⟩
theorem PW.weak {e : Expr} {t t' : TT} (h : PW X e t) (i : ∀ s H Q, t' s H Q → t s H Q) : PW X e t' := ⟨fun w pins s σ H Q I q => h.run w pins s σ H Q I (i _ _ _ q)⟩
theorem PA.weak {e : List Expr} {t t' : TA} (h : PA X e t) (i : ∀ s H Q, t' s H Q → t s H Q) : PA X e t' := ⟨fun p pins s σ H Q I q => h.run p pins s σ H Q I (i _ _ _ q)⟩
theorem PS.weak {e : Stmt} {t t' : TS} (h : PS X e t) (i : ∀ D s H, t' D s H → t D s H) : PS X e t' := ⟨fun pins s σ H D I q => h.run pins s σ H D I (i _ _ _ q)⟩
theorem PSs.weak {e : List Stmt} {t t' : TS} (h : PSs X e t) (i : ∀ D s H, t' D s H → t D s H) : PSs X e t' := ⟨fun pins s σ H D I q => h.run pins s σ H D I (i _ _ _ q)⟩

/-! ### one, two operands -/
/-- after a first operand -/
theorem tE_one {f : Sm EV} {β : Type} {g : EV → Mem → Res β} {s : L2.St} {G : Gh} {M : Mem} {H : Hp} {k : Gh → Mem → Hp → β → Prop} {Q : V → Hp → Prop} (R : StRep X.K E G M s H) (h : OutP X E W s G M H ((f M).bnd g) k)
    (i : ∀ G1 M1 H1 a u, Evo s G M H G1 M1 H1 → StRep X.K E G1 M1 s H1 → RepE X.K E H G1 M1 s H1 a u → OutP X E W s G1 M1 H1 (g a M1) k → Q u H1) : tE X E W f s H Q :=
  ⟨G, M, R, h.bnd.imp fun G1 M1 H1 a V1 R1 q u ru => i G1 M1 H1 a u V1 R1 ru q⟩
theorem tP_one {f : Sm PV} {β : Type} {g : PV → Mem → Res β} {s : L2.St} {G : Gh} {M : Mem} {H : Hp} {k : Gh → Mem → Hp → β → Prop} {Q : V → Hp → Prop} (R : StRep X.K E G M s H) (h : OutP X E W s G M H ((f M).bnd g) k)
    (i : ∀ G1 M1 H1 a u, Evo s G M H G1 M1 H1 → StRep X.K E G1 M1 s H1 → RepV X.K G1 H1 a u → OutP X E W s G1 M1 H1 (g a M1) k → Q u H1) : tP X E W f s H Q :=
  ⟨G, M, R, h.bnd.imp fun G1 M1 H1 a V1 R1 q u ru => i G1 M1 H1 a u V1 R1 ru q⟩
theorem tL_one {f : Sm (List PV)} {β : Type} {g : List PV → Mem → Res β} {s : L2.St} {G : Gh} {M : Mem} {H : Hp} {k : Gh → Mem → Hp → β → Prop} {Q : List V → Hp → Prop} (R : StRep X.K E G M s H) (h : OutP X E W s G M H ((f M).bnd g) k)
    (i : ∀ G1 M1 H1 a u, Evo s G M H G1 M1 H1 → StRep X.K E G1 M1 s H1 → RepVs X.K G1 H1 a u → OutP X E W s G1 M1 H1 (g a M1) k → Q u H1) : tL X E W f s H Q :=
  ⟨G, M, R, h.bnd.imp fun G1 M1 H1 a V1 R1 q u ru => i G1 M1 H1 a u V1 R1 ru q⟩
theorem tB_one {f : Sm Bool} {β : Type} {g : Bool → Mem → Res β} {s : L2.St} {G : Gh} {M : Mem} {H : Hp} {k : Gh → Mem → Hp → β → Prop} {Q : Bool → Hp → Prop} (R : StRep X.K E G M s H) (h : OutP X E W s G M H ((f M).bnd g) k)
    (i : ∀ G1 M1 H1 a, Evo s G M H G1 M1 H1 → StRep X.K E G1 M1 s H1 → OutP X E W s G1 M1 H1 (g a M1) k → Q a H1) : tB' X E W f s H Q :=
  ⟨G, M, R, h.bnd.imp fun G1 M1 H1 a V1 R1 q => i G1 M1 H1 a V1 R1 q⟩
/-- an end at once -/
theorem OutP.now {α : Type} {s : L2.St} {G : Gh} {M : Mem} {H : Hp} {a : α} {k : Gh → Mem → Hp → α → Prop} (h : OutP X E W s G M H (.ok a M) k) (R : StRep X.K E G M s H) : k G M H a := h G H (Evo.refl _ _ _ _) R

/-! ### what things hold -/
@[simp] def cellAt (M : Mem) (r : Nat) : Option PO := M.h[r]?
@[simp] def slotAt (M : Mem) (i : Nat) : Option LV := match M.r[i]? with
  | some (some x) => some x
  | _ => none
/-- the list, where it is one -/
@[simp] def asLst (M : Mem) : EV → Option (List PV)
  | .v (.lst xs) => some xs
  | .v (.rol xs) => some xs
  | .v (.ref r) => match cellAt M r with
    | some (.lst xs) => some xs
    | _ => none
  | .fr (.lst xs) => some xs
  | .sl i => match slotAt M i with
    | some (.own (.lst xs)) => some xs
    | _ => none
  | _ => none
@[simp] def asDct (M : Mem) : EV → Option (List Key × List PV)
  | .v (.dct ks xs) => some (ks, xs)
  | .v (.ref r) => match cellAt M r with
    | some (.dct ks xs) => some (ks, xs)
    | _ => none
  | .fr (.dct ks xs) => some (ks, xs)
  | .sl i => match slotAt M i with
    | some (.own (.dct ks xs)) => some (ks, xs)
    | _ => none
  | _ => none
section
variable {K : PySem.W.Frag} {G : Gh} {M : Mem} {s : L2.St} {H H0 : Hp}
theorem slotAt_some {i : Nat} {x : LV} (h : slotAt M i = some x) : M.r[i]? = some (some x) := by
  unfold slotAt at h
  split at h
  · rename_i e; cases h; exact e
  · cases h
theorem RepO.lst_iff {xs : List PV} {o : HO} : RepO K G H (.lst xs) o ↔ ∃ us, o = .lst us ∧ us.length ≤ sizeLine ∧ RepVs K G H xs us := Iff.rfl
theorem StRep.cell (R : StRep K E G M s H) {r : Nat} {o : PO} {a : Addr} (h : cellAt M r = some o) (ha : G.al[r]? = some a) : ∃ u, H a = some u ∧ RepO K G H o u := (R.hp.obj r a o ha h).2
/-- a list that may be read -/
theorem lst_of (R : StRep K E G M s H) {e : EV} {u : V} {xs : List PV} (r : RepE K E H0 G M s H e u) (h : asLst M e = some xs) :
    ∃ a us, u = .ref a ∧ SqL K H a us ∧ RepVs K G H xs us ∧ us.length ≤ sizeLine := by
  cases e with
  | v p =>
    cases p with
    | lst ys =>
      cases h
      have r : RepV K G H (.lst xs) u := r
      simp only [RepV] at r
      obtain ⟨a, us, e, ⟨f0, f1, f2⟩, q⟩ := r
      exact ⟨a, us, e, .inl f2, q, f0⟩
    | rol ys =>
      cases h
      have r : RepV K G H (.rol xs) u := r
      simp only [RepV] at r
      obtain ⟨a, us, e, f, q⟩ := r
      exact ⟨a, us, e, f.sq, q, f.1⟩
    | ref c =>
      have r : RepV K G H (.ref c) u := r
      simp only [RepV] at r
      obtain ⟨a, e, q⟩ := r
      simp only [asLst] at h
      split at h
      · rename_i ec
        cases h
        obtain ⟨w, h1, us, rfl, z, rr⟩ := R.cell ec q
        exact ⟨a, us, e, SqL.of h1, rr, z⟩
      · cases h
    | non => cases h
    | bl b => cases h
    | int b => cases h
    | str b => cases h
    | tup b => cases h
    | dct b c => cases h
    | con b => cases h
  | fr o =>
    cases o with
    | lst ys =>
      cases h
      obtain ⟨a, w, e, h1, ⟨us, rfl, z, rr⟩, _⟩ := r
      exact ⟨a, us, e, SqL.of h1, rr, z⟩
    | dct b c => cases h
    | ins b c d => cases h
  | sl i =>
    simp only [asLst] at h
    split at h
    · rename_i ec
      cases h
      obtain ⟨a, w, e, h1, ⟨us, rfl, z, rr⟩, _⟩ := R.own i _ (slotAt_some ec)
      have r : s[i]? = some (some u) := r
      rw [e] at r
      cases r
      exact ⟨a, us, rfl, SqL.of h1, rr, z⟩
    · cases h
@[simp] def asLstR (M : Mem) : EV → Option (List PV)
  | .v (.rol _) => none
  | e => asLst M e
theorem asLstR_as {M : Mem} {e : EV} {xs : List PV} (h : asLstR M e = some xs) : asLst M e = some xs := by
  unfold asLstR at h
  split at h
  · cases h
  · exact h
theorem lstR_of (R : StRep K E G M s H) {e : EV} {u : V} {xs : List PV} (r : RepE K E H0 G M s H e u) (h : asLstR M e = some xs) :
    ∃ a us, u = .ref a ∧ Rd H a (.lst us) ∧ RepVs K G H xs us ∧ us.length ≤ sizeLine := by
  cases e with
  | v p =>
    cases p with
    | lst ys =>
      cases h
      have r : RepV K G H (.lst xs) u := r
      simp only [RepV] at r
      obtain ⟨a, us, e, ⟨f0, f1, f2⟩, q⟩ := r
      exact ⟨a, us, e, f2, q, f0⟩
    | ref c =>
      have r : RepV K G H (.ref c) u := r
      simp only [RepV] at r
      obtain ⟨a, e, q⟩ := r
      simp only [asLstR, asLst] at h
      split at h
      · rename_i ec
        cases h
        obtain ⟨w, h1, us, rfl, z, rr⟩ := R.cell ec q
        exact ⟨a, us, e, .inl h1, rr, z⟩
      · cases h
    | non => cases h
    | bl b => cases h
    | int b => cases h
    | str b => cases h
    | tup b => cases h
    | dct b c => cases h
    | con b => cases h
    | rol b => cases h
  | fr o =>
    cases o with
    | lst ys =>
      cases h
      obtain ⟨a, w, e, h1, ⟨us, rfl, z, rr⟩, _⟩ := r
      exact ⟨a, us, e, .inl h1, rr, z⟩
    | dct b c => cases h
    | ins b c d => cases h
  | sl i =>
    simp only [asLstR, asLst] at h
    split at h
    · rename_i ec
      cases h
      obtain ⟨a, w, e, h1, ⟨us, rfl, z, rr⟩, _⟩ := R.own i _ (slotAt_some ec)
      have r : s[i]? = some (some u) := r
      rw [e] at r
      cases r
      exact ⟨a, us, rfl, .inl h1, rr, z⟩
    · cases h
theorem tup_of {p : List PV} {u : V} (r : RepV K G H (.tup p) u) : ∃ a us, u = .ref a ∧ SqT K H a us ∧ RepVs K G H p us ∧ us.length ≤ sizeLine := by
  simp only [RepV] at r
  obtain ⟨a, us, e, f, q⟩ := r
  exact ⟨a, us, e, f.sq, q, f.1⟩
theorem dct_of (R : StRep K E G M s H) {e : EV} {u : V} {ks : List Key} {xs : List PV} (r : RepE K E H0 G M s H e u) (h : asDct M e = some (ks, xs)) :
    ∃ a kvs, u = .ref a ∧ Rd H a (.dK kvs) ∧ kvs.map (·.1) = ks ∧ RepVs K G H xs (kvs.map (·.2)) ∧ kvs.length ≤ sizeLine := by
  cases e with
  | v p =>
    cases p with
    | dct ys zs =>
      cases h
      have r : RepV K G H (.dct ks xs) u := r
      simp only [RepV] at r
      obtain ⟨a, us, e, ⟨_, f⟩, z, q, rr⟩ := r
      exact ⟨a, us, e, f, q, rr, z⟩
    | ref c =>
      have r : RepV K G H (.ref c) u := r
      simp only [RepV] at r
      obtain ⟨a, e, q⟩ := r
      simp only [asDct] at h
      split at h
      · rename_i ec
        cases h
        obtain ⟨w, h1, us, rfl, z, k, rr⟩ := R.cell ec q
        exact ⟨a, us, e, .inl h1, k, rr, z⟩
      · cases h
    | non => cases h
    | bl b => cases h
    | int b => cases h
    | str b => cases h
    | tup b => cases h
    | lst c => cases h
    | con b => cases h
    | rol c => cases h
  | fr o =>
    cases o with
    | dct ys zs =>
      cases h
      obtain ⟨a, w, e, h1, ⟨us, rfl, z, k, rr⟩, _⟩ := r
      exact ⟨a, us, e, .inl h1, k, rr, z⟩
    | lst c => cases h
    | ins b c d => cases h
  | sl i =>
    simp only [asDct] at h
    split at h
    · rename_i ec
      cases h
      obtain ⟨a, w, e, h1, ⟨us, rfl, z, k, rr⟩, _⟩ := R.own i _ (slotAt_some ec)
      have r : s[i]? = some (some u) := r
      rw [e] at r
      cases r
      exact ⟨a, us, rfl, .inl h1, k, rr, z⟩
    · cases h
end

/-! ### a thing becomes a value -/
@[simp] def poV : PO → Option PV
  | .lst xs => some (.lst xs)
  | .dct ks xs => some (.dct ks xs)
  | .ins _ _ _ => none
@[simp] def toP1 (e : EV) (M : Mem) : Res PV := match e with
  | .v p => .ok p M
  | .fr o => match poV o with
    | some p => .ok p M
    | none => .bad
  | .sl i => match slotAt M i with
    | some (.own o) => match poV o with
      | some p => .ok p ⟨M.r.set i (some (.v p)), M.h⟩
      | none => .bad
    | _ => .bad
@[simp] def toP (f : Sm EV) : Sm PV := fun M => (f M).bnd toP1
theorem poV_rep {K : PySem.W.Frag} {G : Gh} {H : Hp} {o : PO} {p : PV} {w : HO} {a : Addr} (h : poV o = some p) (r : RepO K G H o w) (ha : H a = some w) : RepV K (G.fz a) H p (.ref a) := by
  have x := G.ext_fz H a
  cases o with
  | lst xs =>
    cases h
    obtain ⟨us, rfl, z, rr⟩ := r
    simp only [RepV]
    exact ⟨a, us, rfl, ⟨z, .inr rfl, .inl ha⟩, RepVs.mono x _ _ rr⟩
  | dct ks xs =>
    cases h
    obtain ⟨us, rfl, z, k, rr⟩ := r
    simp only [RepV]
    exact ⟨a, us, rfl, ⟨.inr rfl, .inl ha⟩, z, k, RepVs.mono x _ _ rr⟩
  | ins C ns xs => cases h
/-- the end of toP1, seen from the run's beginning -/
theorem OutP.toP1 {s : L2.St} {G G1 : Gh} {M M1 : Mem} {H H1 : Hp} {e : EV} {u : V} {k : Gh → Mem → Hp → PV → Prop} (V1 : Evo s G M H G1 M1 H1) (R1 : StRep X.K E G1 M1 s H1) (r : RepE X.K E H G1 M1 s H1 e u)
    (h : OutP X E W s G M H (HF.toP1 e M1) k) : ∃ G2 M2 p, Evo s G M H G2 M2 H1 ∧ StRep X.K E G2 M2 s H1 ∧ RepV X.K G2 H1 p u ∧ k G2 M2 H1 p := by
  cases e with
  | v p => exact ⟨G1, M1, p, V1, R1, r, h G1 H1 V1 R1⟩
  | fr o =>
    obtain ⟨a, w, rfl, h1, ro, n, nf, nl, no, z⟩ := r
    simp only [HF.toP1] at h
    split at h
    · rename_i p ep
      have R2 := R1.frozen h1 n nl no
      have V2 := V1.frozen (p := a) (.inl z)
      exact ⟨G1.fz a, M1, p, V2, R2, poV_rep ep ro h1, h _ _ V2 R2⟩
    · exact False.elim h
  | sl i =>
    simp only [HF.toP1] at h
    split at h
    · rename_i o eo
      split at h
      · rename_i p ep
        have ei := slotAt_some eo
        obtain ⟨a, w, e, h1, ro, n, nf, nl⟩ := R1.own i o ei
        have r : s[i]? = some (some u) := r
        rw [e] at r
        cases r
        have ow : OwnAt M.r s a := V1.own a ⟨i, o, ei, e⟩
        have lt : i < M1.r.length := (List.getElem?_eq_some_iff.mp ei).1
        have rv := poV_rep ep ro h1
        -- the slot first forgets, then the address is frozen, then the slot has the value
        have Rf : StRep X.K E G1 ⟨M1.r.set i none, M1.h⟩ s H1 := R1.slots (by simp) fun j x ej => by
          by_cases zj : i = j
          · subst zj; rw [List.getElem?_set_self lt] at ej; cases ej
          · rw [List.getElem?_set_ne zj] at ej; exact .inl ej
        have nof : ¬ OwnAt (M1.r.set i none) s a := fun ⟨j, o2, e1, e2⟩ => by
          by_cases zj : i = j
          · subst zj; rw [List.getElem?_set_self lt] at e1; cases e1
          · rw [List.getElem?_set_ne zj] at e1
            exact zj (R1.sep i j o o2 a ei e1 e e2)
        have Rz := Rf.frozen h1 n nl nof
        have R2 : StRep X.K E (G1.fz a) ⟨M1.r.set i (some (.v p)), M1.h⟩ s H1 := Rz.slots (r' := M1.r.set i (some (.v p))) (by simp) fun j x ej => by
          by_cases zj : i = j
          · subst zj; rw [List.getElem?_set_self lt] at ej; cases ej
            exact .inr ⟨p, .ref a, rfl, e, rv⟩
          · rw [List.getElem?_set_ne zj] at ej
            exact .inl (by show (M1.r.set i none)[j]? = _; rw [List.getElem?_set_ne zj]; exact ej)
        have V2 : Evo s G M H (G1.fz a) ⟨M1.r.set i (some (.v p)), M1.h⟩ H1 := by
          have V3 := V1.frozen (p := a) (.inr ow)
          refine ⟨V3.ext, V3.keep, fun b ⟨j, o2, e1, e2⟩ => V1.own b ?_, V3.dom⟩
          by_cases zj : i = j
          · subst zj; rw [List.getElem?_set_self lt] at e1; cases e1
          · rw [List.getElem?_set_ne zj] at e1; exact ⟨j, o2, e1, e2⟩
        exact ⟨_, _, p, V2, R2, rv, h _ _ V2 R2⟩
      · exact False.elim h
    · exact False.elim h
theorem FE.toP {e : Expr} {f : Sm EV} (h : FE X E W e f) : FP X E W e (HF.toP f) := by
  refine ⟨PE.weak h.pe ?_⟩
  rintro s H Q ⟨G, M, R, h⟩
  refine ⟨G, M, R, ?_⟩
  simp only [HF.toP] at h
  generalize f M = q at h
  cases q with
  | ok ev M1 =>
    intro G1 H1 V1 R1 u ru
    obtain ⟨G2, M2, p, _, _, rv, q⟩ := OutP.toP1 V1 R1 ru (k := fun G' _ H' p => ∀ u, RepV X.K G' H' p u → Q u H') h
    exact q u rv
  | exn c M1 => exact h
  | bad => exact h
end
end HF

end
section
set_option Elab.async false
set_option linter.all false
set_option maxRecDepth 20000
set_option autoImplicit false
/-! HF3: names, constants, operators, comparisons, and, or, not, displays, subscripts, slices. -/
namespace HF
open PySem PySem.Spec PyProof.Rows L2

/-- what is known of the place where code runs -/
structure Wd where
  P : Program
  w : World
  K : PySem.W.Frag
  mg : Str → Option Value
  base : Heap
structure Amb (Z : Wd) (X : Cx) (W : WX) (N : List Str) (sc : Scope) (fs : Str → Bool) (k : Nat) : Prop where
  hN : X.N = N
  fn : X.fn = fs
  same : X.prog = Z.P ∧ X.w = Z.w ∧ X.K = Z.K ∧ X.mg = Z.mg ∧ X.base = Z.base
  hs : X.env.scope = sc
  nd : N.Nodup
  calm : X.calm = true
  room : Room k X.A
  tk : Takes X W
  po : PassesOwn (model X.prog X.w) X.A X.env X.xe
def visB (sc : Scope) (x : Str) : Bool := match sc.names.lookup x with
  | some .local => true
  | some .cell => true
  | some .free => true
  | _ => false
theorem vis_of {sc : Scope} {x : Str} (h : visB sc x = true) : Vis sc x := by
  unfold visB at h
  split at h
  · rename_i e; exact .inl e
  · rename_i e; exact .inr (.inl e)
  · rename_i e; exact .inr (.inr e)
  · cases h
section
variable {X : Cx} {E : Ent} {W : WX} {N : List Str} {sc : Scope} {fs : Str → Bool} {k : Nat} {Z : Wd}
theorem Amb.u64 (A : Amb Z X W N sc fs k) : X.A.units + 64 < cLine := A.room.units
theorem Amb.u65 (A : Amb Z X W N sc fs k) : X.A.units + 65 < cLine := by have := A.room.un; omega
theorem Amb.u1 (A : Amb Z X W N sc fs k) : X.A.units + 1 < cLine := by have := A.room.un; omega
theorem Amb.gl (A : Amb Z X W N sc fs k) {x : Str} (h : sc.names.lookup x = some .globalImplicit) : Gl X x := by
  show X.env.scope.names.lookup x = _
  rw [A.hs]; exact h

/-! ### names and constants -/
@[simp] def eVar (i : Nat) : Sm EV := fun M => match slotAt M i with
  | some (.v p) => .ok (.v p) M
  | some (.own _) => .ok (.sl i) M
  | none => .bad
theorem fe_var (A : Amb Z X W N sc fs k) {i : Nat} {x : Str} {pos : Pos} (hN : N[i]? = some x) (hv : visB sc x = true) (hd : (x == ("__debug__" : Str)) = false := by decide) (hcd : (x == ("__classdict__" : Str)) = false := by decide) : FE X E W (.Name x pos) (eVar i) := by
  refine ⟨PE.weak (pe_var (i := i) (by rw [A.hN]; exact hN) (by rw [A.hs]; exact vis_of hv) hd hcd) ?_⟩
  rintro s H Q ⟨G, M, R, h⟩
  simp only [eVar] at h
  split at h
  · rename_i p e
    obtain ⟨u, e1, r⟩ := R.slot i p (slotAt_some e)
    exact ⟨u, e1, h.now R u r⟩
  · rename_i o e
    obtain ⟨a, u, e1, h1, _⟩ := R.own i o (slotAt_some e)
    exact ⟨.ref a, e1, h.now R (.ref a) e1⟩
  · exact False.elim h
@[simp] def eC (p : PV) : Sm EV := fun M => .ok (.v p) M
theorem fe_const {e : Expr} {v : V} {p : PV} (h : PE X e (tC v)) (r : ∀ G H, RepV X.K G H p v) : FE X E W e (eC p) := by
  refine ⟨PE.weak h ?_⟩
  rintro s H Q ⟨G, M, R, h⟩
  exact h.now R v (r G H)
theorem fe_int {i : Int} {j pos} : FE X E W (.Constant (.int i) j pos) (eC (.int i)) := fe_const pe_int fun _ _ => by simp only [RepV]
theorem fe_bl {b : Bool} {j pos} : FE X E W (.Constant (.bool b) j pos) (eC (.bl b)) := fe_const pe_bl fun _ _ => by simp only [RepV]
theorem fe_non {j pos} : FE X E W (.Constant .none j pos) (eC .non) := fe_const pe_non fun _ _ => by simp only [RepV]
theorem fe_str {x : Str} {j pos} : FE X E W (.Constant (.str x) j pos) (eC (.str x)) := fe_const pe_str fun _ _ => by simp only [RepV]
/-- a text of the module -/
theorem fe_gstr (A : Amb Z X W N sc fs k) {x y : Str} {t : Tok} {pos : Pos} (hm : X.mg x = some (.str y t)) (hg : sc.names.lookup x = some .globalImplicit := by rfl) (hd : (x == ("__debug__" : Str)) = false := by decide) : FE X E W (.Name x pos) (eC (.str y)) :=
  fe_const (v := .str y) (pe_glob (A.gl hg) hm ⟨t, rfl⟩ hd) fun _ _ => by simp only [RepV]
theorem fe_gint (A : Amb Z X W N sc fs k) {x : Str} {y : Int} {t : Tok} {pos : Pos} (hm : X.mg x = some (.int y t)) (hg : sc.names.lookup x = some .globalImplicit := by rfl) (hd : (x == ("__debug__" : Str)) = false := by decide) : FE X E W (.Name x pos) (eC (.int y)) :=
  fe_const (v := .int y) (pe_glob (A.gl hg) hm ⟨t, rfl⟩ hd) fun _ _ => by simp only [RepV]

/-! ### two operands -/
abbrev Op2 := EV → EV → Mem → Option EV
@[simp] def optR {α : Type} (x : Option α) (M : Mem) : Res α := match x with
  | some a => .ok a M
  | none => .bad
@[simp] def e2 (op : Op2) (f g : Sm EV) : Sm EV := fun M => (f M).bnd fun x M1 => (g M1).bnd fun y M2 => optR (op x y M2) M2
def Op2Ok (X : Cx) (r : R2) (op : Op2) : Prop := ∀ (E : Ent) (s : L2.St) (G : Gh) (M : Mem) (H H0 : Hp) (x y : EV) (u v : V) (ev : EV) (Q : VK), StRep X.K E G M s H → (∀ a, H a = none → H0 a = none) →
  RepE X.K E H0 G M s H x u → RepE X.K E H0 G M s H y v → op x y M = some ev → (∀ G' H' w, Evo s G M H G' M H' → StRep X.K E G' M s H' → RepE X.K E H0 G' M s H' ev w → Q w H') → r u v H Q
theorem tE_two {f g : Sm EV} {r : R2} {op : Op2} (ok : Op2Ok X r op) {s : L2.St} {H : Hp} {Q : VK} (h : tE X E W (e2 op f g) s H Q) : tOp r (tE X E W f) (tE X E W g) s H Q := by
  obtain ⟨G, M, R, h⟩ := h
  refine tE_one R h fun G1 M1 H1 x u V1 R1 rx h1 => ?_
  refine tE_one R1 h1 fun G2 M2 H2 y v V2 R2 ry h2 => ?_
  have V := V1.trans V2
  simp only [optR] at h2
  split at h2
  · rename_i ev eo
    refine ok E s G2 M2 H2 H x y u v ev Q R2 V.dom (rx.evo V2) (ry.old V1.dom) eo fun G' H' w V3 R3 rw' => ?_
    exact h2 G' H' V3 R3 w (rw'.old fun _ z => z)
  · exact False.elim h2
section
variable {a b : Expr} {f g : Sm EV} {pos : Pos}
theorem fe_bin {op : Operator} {r : R2} {o : Op2} (ho : OpR X (binaryOp op) r) (k : Op2Ok X r o) (ha : FE X E W a f) (hb : FE X E W b g) : FE X E W (.BinOp a op b pos) (e2 o f g) :=
  ⟨PE.weak (pe_op ho ha.pe hb.pe) fun _ _ _ h => tE_two k h⟩
end
theorem Op2Ok.or {r r' : R2} {o o' : Op2} (h : Op2Ok X r o) (h' : Op2Ok X r' o') : Op2Ok X (fun x y H Q => r x y H Q ∨ r' x y H Q) (fun x y M => (o x y M).or (o' x y M)) := by
  intro E s G M H H0 x y u v ev Q R d rx ry e q
  simp only at e
  cases e1 : o x y M with
  | some w =>
    rw [e1] at e
    cases e
    exact .inl (h E s G M H H0 x y u v _ Q R d rx ry e1 q)
  | none =>
    rw [e1] at e
    exact .inr (h' E s G M H H0 x y u v ev Q R d rx ry e q)
theorem repE_int {E : Ent} {H0 : Hp} {G : Gh} {M : Mem} {s : L2.St} {H : Hp} {i : Int} {u : V} (h : RepE X.K E H0 G M s H (.v (.int i)) u) : u = .int i := by
  have h : RepV X.K G H (.int i) u := h
  simpa only [RepV] using h
theorem repE_str {E : Ent} {H0 : Hp} {G : Gh} {M : Mem} {s : L2.St} {H : Hp} {i : Str} {u : V} (h : RepE X.K E H0 G M s H (.v (.str i)) u) : u = .str i := by
  have h : RepV X.K G H (.str i) u := h
  simpa only [RepV] using h
theorem repE_bl {E : Ent} {H0 : Hp} {G : Gh} {M : Mem} {s : L2.St} {H : Hp} {i : Bool} {u : V} (h : RepE X.K E H0 G M s H (.v (.bl i)) u) : u = .bl i := by
  have h : RepV X.K G H (.bl i) u := h
  simpa only [RepV] using h
theorem repE_tup {E : Ent} {H0 : Hp} {G : Gh} {M : Mem} {s : L2.St} {H : Hp} {p : List PV} {u : V} (h : RepE X.K E H0 G M s H (.v (.tup p)) u) : ∃ a us, u = .ref a ∧ SqT X.K H a us ∧ RepVs X.K G H p us ∧ us.length ≤ sizeLine := tup_of h
/-- two ints to an int -/
@[simp] def opI2 (c : Int → Int → Bool) (f : Int → Int → Int) : Op2 := fun x y _ => match x, y with
  | .v (.int i), .v (.int j) => if c i j then some (.v (.int (f i j))) else none
  | _, _ => none
theorem opI2_ok {C : Int → Int → Prop} {c : Int → Int → Bool} {f : Int → Int → Int} (hc : ∀ i j, c i j = true → C i j) : Op2Ok X (rI C fun i j => .int (f i j)) (opI2 c f) := by
  intro E s G M H H0 x y u v ev Q R d rx ry e q
  simp only [opI2] at e
  split at e
  · split at e
    · rename_i i j z
      cases e
      exact ⟨i, j, repE_int rx, repE_int ry, hc i j z, q G H _ (Evo.refl _ _ _ _) R (show RepV X.K G H (.int (f i j)) _ by simp only [RepV])⟩
    · cases e
  · cases e
@[simp] def opI2' (f : Int → Int → Int) : Op2 := fun x y _ => match x, y with
  | .v (.int i), .v (.int j) => some (.v (.int (f i j)))
  | _, _ => none
theorem opI2'_ok {f : Int → Int → Int} : Op2Ok X (rI0 fun i j => .int (f i j)) (opI2' f) := by
  intro E s G M H H0 x y u v ev Q R d rx ry e q
  simp only [opI2'] at e
  split at e
  · rename_i i j
    cases e
    exact ⟨i, j, repE_int rx, repE_int ry, q G H _ (Evo.refl _ _ _ _) R (show RepV X.K G H (.int (f i j)) _ by simp only [RepV])⟩
  · cases e
@[simp] def opStrCat : Op2 := fun x y _ => match x, y with
  | .v (.str i), .v (.str j) => if i.length + j.length ≤ sizeLine then some (.v (.str (i ++ j))) else none
  | _, _ => none
@[simp] def opTupCat : Op2 := fun x y _ => match x, y with
  | .v (.tup i), .v (.tup j) => if i.length + j.length ≤ sizeLine then some (.v (.tup (i ++ j))) else none
  | _, _ => none
@[simp] def opLstCat : Op2 := fun x y M => match asLstR M x, asLstR M y with
  | some i, some j => if i.length + j.length ≤ sizeLine then some (.fr (.lst (i ++ j))) else none
  | _, _ => none
theorem opStrCat_ok : Op2Ok X (fun x y H Q => ∃ i j, x = .str i ∧ y = .str j ∧ i.length + j.length ≤ sizeLine ∧ Q (.str (i ++ j)) H) opStrCat := by
  intro E s G M H H0 x y u v ev Q R d rx ry e q
  simp only [opStrCat] at e
  split at e
  · rename_i i j
    split at e
    · rename_i z
      cases e
      exact ⟨i, j, repE_str rx, repE_str ry, z, q G H _ (Evo.refl _ _ _ _) R (show RepV X.K G H (.str (i ++ j)) _ by simp only [RepV])⟩
    · cases e
  · cases e
/-- a new tuple -/
theorem rep_newtup {E : Ent} {s : L2.St} {G : Gh} {M : Mem} {H : Hp} {ps : List PV} {us : List V} (R : StRep X.K E G M s H) (r : RepVs X.K G H ps us) (z : us.length ≤ sizeLine) {p : Addr} (hp : H p = none) :
    Evo s G M H (G.fz p) M (upd H p (.tup us)) ∧ StRep X.K E (G.fz p) M s (upd H p (.tup us)) ∧ RepV X.K (G.fz p) (upd H p (.tup us)) (.tup ps) (.ref p) := by
  obtain ⟨R1, V1, eh, nf, na, no⟩ := R.laid (.tup us) hp
  refine ⟨V1.frozen (.inl hp), R1.frozen upd_same eh na no, ?_⟩
  simp only [RepV]
  exact ⟨p, us, rfl, ⟨z, .inl ⟨.inr rfl, .inl upd_same⟩⟩, RepVs.mono (V1.ext.trans (G.ext_fz _ p)) _ _ r⟩
/-- a new list -/
theorem rep_newlst {E : Ent} {s : L2.St} {G : Gh} {M : Mem} {H H0 : Hp} {ps : List PV} {us : List V} (R : StRep X.K E G M s H) (d : ∀ a, H a = none → H0 a = none) (r : RepVs X.K G H ps us) (z : us.length ≤ sizeLine) {p : Addr} (hp : H p = none) :
    Evo s G M H G M (upd H p (.lst us)) ∧ StRep X.K E G M s (upd H p (.lst us)) ∧ RepE X.K E H0 G M s (upd H p (.lst us)) (.fr (.lst ps)) (.ref p) := by
  obtain ⟨R1, V1, eh, nf, na, no⟩ := R.laid (.lst us) hp
  exact ⟨V1, R1, p, _, rfl, upd_same, ⟨us, rfl, z, RepVs.mono V1.ext _ _ r⟩, eh, nf, na, no, d p hp⟩
end
end HF

end
section
set_option Elab.async false
set_option linter.all false
set_option maxRecDepth 20000
set_option autoImplicit false
/-! HF4: tuples, lists, comparisons, tests, displays, subscripts, slices. -/
namespace HF
open PySem PySem.Spec PyProof.Rows L2
section
variable {X : Cx} {E : Ent} {W : WX} {N : List Str} {sc : Scope} {fs : Str → Bool} {k : Nat} {Z : Wd}
theorem opTupCat_ok : Op2Ok X (rCatA X.K) opTupCat := by
  intro E s G M H H0 x y u v ev Q R d rx ry e q
  simp only [opTupCat] at e
  split at e
  · rename_i i j
    split at e
    · rename_i z
      cases e
      obtain ⟨a, us, rfl, ha, ra, za⟩ := repE_tup rx
      obtain ⟨b, vs, rfl, hb, rb, zb⟩ := repE_tup ry
      have l1 := ra.length
      have l2 := rb.length
      refine ⟨a, b, us, vs, rfl, rfl, ha, hb, by omega, fun e => ?_, fun e e' => ?_, fun e e' p hp => ?_⟩
      · subst e
        have ei : i = [] := List.length_eq_zero_iff.mp (by rw [l1]; rfl)
        subst ei
        exact q G H _ (Evo.refl _ _ _ _) R (by simpa using ry)
      · subst e'
        have ei : j = [] := List.length_eq_zero_iff.mp (by rw [l2]; rfl)
        subst ei
        exact q G H _ (Evo.refl _ _ _ _) R (by simpa using rx)
      · obtain ⟨V1, R1, r1⟩ := rep_newtup R (ra.append rb) (by rw [List.length_append]; omega) hp
        exact q _ _ _ V1 R1 r1
    · cases e
  · cases e
/-- a list and a list, known ones too -/
def rCatR : R2 := fun x y H Q => ∃ l b xs zs, x = .ref l ∧ y = .ref b ∧ Rd H l (.lst xs) ∧ Rd H b (.lst zs) ∧ xs.length + zs.length ≤ sizeLine ∧ ∀ p, H p = none → Q (.ref p) (upd H p (.lst (xs ++ zs)))
theorem op_catR : OpR X (binaryOp .Add) rCatR := by
  intro pins s σ H x y v u Q I rx ry h
  obtain ⟨l, b, xs, zs, rfl, rfl, hH, hB, hz, q⟩ := h
  cases rx
  cases ry
  obtain ⟨z, its, n, r, e⟩ : ObjOk X.prog X.w H s.heap l (.lst xs) := hH.ok I.hok
  obtain ⟨z2, its2, n2, r2, e2⟩ : ObjOk X.prog X.w H s.heap b (.lst zs) := hB.ok I.hok
  have hl := r.length
  have hl2 := r2.length
  refine PySem.P.add_list e e2 ?_ (by rw [List.size_toArray, List.size_toArray]; omega)
  have ea : its.toArray ++ its2.toArray = (its ++ its2).toArray := by simp
  rw [ea]
  exact ⟨.ref _, _, I.lnew (t' := s.toks) (r.append r2) (by rw [List.length_append]; omega), rfl, q _ I.fresh⟩
theorem opLstCat_ok : Op2Ok X rCatR opLstCat := by
  intro E s G M H H0 x y u v ev Q R d rx ry e q
  simp only [opLstCat] at e
  split at e
  · rename_i i j e1 e2
    split at e
    · rename_i z
      cases e
      obtain ⟨a, us, rfl, ha, ra, za⟩ := lstR_of R rx e1
      obtain ⟨b, vs, rfl, hb, rb, zb⟩ := lstR_of R ry e2
      have l1 := ra.length
      have l2 := rb.length
      refine ⟨a, b, us, vs, rfl, rfl, ha, hb, by omega, fun p hp => ?_⟩
      obtain ⟨V1, R1, r1⟩ := rep_newlst (H0 := H0) R d (ra.append rb) (by rw [List.length_append]; omega) hp
      exact q _ _ _ V1 R1 r1
    · cases e
  · cases e
/-- + -/
@[simp] def opAdd : Op2 := fun x y M => (opI2' (fun i j => i + j) x y M).or ((opStrCat x y M).or ((opTupCat x y M).or (opLstCat x y M)))
theorem opAdd_ok : Op2Ok X (fun x y H Q => rI0 (fun i j => .int (i + j)) x y H Q ∨ (∃ i j, x = .str i ∧ y = .str j ∧ i.length + j.length ≤ sizeLine ∧ Q (.str (i ++ j)) H) ∨ rCatA X.K x y H Q ∨ rCatR x y H Q) opAdd :=
  opI2'_ok.or (opStrCat_ok.or (opTupCat_ok.or opLstCat_ok))
theorem op_addA : OpR X (binaryOp .Add) (fun x y H Q => rI0 (fun i j => .int (i + j)) x y H Q ∨ (∃ i j, x = .str i ∧ y = .str j ∧ i.length + j.length ≤ sizeLine ∧ Q (.str (i ++ j)) H) ∨ rCatA X.K x y H Q ∨ rCatR x y H Q) :=
  op_add.or (op_add_str.or (op_catA.or op_catR))
/-- a list so many times -/
@[simp] def opRep : Op2 := fun x y M => match asLst M x, y with
  | some xs, .v (.int n) => if decide (n.natAbs < 2 ^ 62) && decide (xs.length * n.toNat ≤ sizeLine) then some (.fr (.lst (List.replicate n.toNat xs).flatten)) else none
  | _, _ => none
@[simp] def mulOk (i j : Int) : Bool := decide (i.natAbs < 2 ^ 64) || decide (j.natAbs < 2 ^ 64)
theorem mulOk_of {i j : Int} (h : mulOk i j = true) : CMul i j := by
  simp only [mulOk, Bool.or_eq_true, decide_eq_true_eq] at h
  rcases h with h | h
  · exact .inl (by omega)
  · exact .inr (by omega)
@[simp] def opSub : Op2 := opI2' fun i j => i - j
@[simp] def opMul : Op2 := opI2 mulOk fun i j => i * j
@[simp] def divOk (_ j : Int) : Bool := decide (0 < j) && decide (j < 1073741824)
@[simp] def opDiv : Op2 := opI2 divOk fun i j => i / j
@[simp] def modOk (_ j : Int) : Bool := decide (0 < j)
@[simp] def opMod : Op2 := opI2 modOk fun i j => i % j
@[simp] def powOk (i j : Int) : Bool := decide (0 ≤ j) && decide (j ≤ 1000000) && decide (i.natAbs < 2 ^ 64)
@[simp] def opPow : Op2 := opI2 powOk fun i j => i ^ j.toNat
section
variable {a b : Expr} {f g : Sm EV} {pos : Pos}
theorem fe_add (ha : FE X E W a f) (hb : FE X E W b g) : FE X E W (.BinOp a .Add b pos) (e2 opAdd f g) := fe_bin op_addA opAdd_ok ha hb
theorem fe_sub (ha : FE X E W a f) (hb : FE X E W b g) : FE X E W (.BinOp a .Sub b pos) (e2 opSub f g) := fe_bin op_sub opI2'_ok ha hb
theorem fe_mul (ha : FE X E W a f) (hb : FE X E W b g) : FE X E W (.BinOp a .Mult b pos) (e2 opMul f g) := fe_bin op_mul (opI2_ok fun _ _ h => mulOk_of h) ha hb
theorem fe_div (ha : FE X E W a f) (hb : FE X E W b g) : FE X E W (.BinOp a .FloorDiv b pos) (e2 opDiv f g) := fe_bin op_fdiv (opI2_ok fun _ _ h => by simpa [divOk, CDiv] using h) ha hb
theorem fe_mod (ha : FE X E W a f) (hb : FE X E W b g) : FE X E W (.BinOp a .Mod b pos) (e2 opMod f g) := fe_bin op_mod (opI2_ok fun _ _ h => by simpa [modOk] using h) ha hb
theorem fe_pow (ha : FE X E W a f) (hb : FE X E W b g) : FE X E W (.BinOp a .Pow b pos) (e2 opPow f g) := fe_bin op_pow (opI2_ok fun _ _ h => by simpa [powOk, CPow, and_assoc] using h) ha hb
end

/-! ### comparisons -/
abbrev Cp2 := EV → EV → Mem → Option Bool
def Cp2Ok (X : Cx) (r : R2) (op : Cp2) : Prop := ∀ (E : Ent) (s : L2.St) (G : Gh) (M : Mem) (H H0 : Hp) (x y : EV) (u v : V) (b : Bool) (Q : VK), StRep X.K E G M s H →
  RepE X.K E H0 G M s H x u → RepE X.K E H0 G M s H y v → op x y M = some b → Q (.bl b) H → r u v H Q
@[simp] def b2 (op : Cp2) (f g : Sm EV) : Sm Bool := fun M => (f M).bnd fun x M1 => (g M1).bnd fun y M2 => optR (op x y M2) M2
@[simp] def eB (f : Sm Bool) : Sm EV := fun M => (f M).bnd fun b M1 => .ok (.v (.bl b)) M1
theorem Cp2Ok.or {r r' : R2} {o o' : Cp2} (h : Cp2Ok X r o) (h' : Cp2Ok X r' o') : Cp2Ok X (fun x y H Q => r x y H Q ∨ r' x y H Q) (fun x y M => (o x y M).or (o' x y M)) := by
  intro E s G M H H0 x y u v b Q R rx ry e q
  simp only at e
  cases e1 : o x y M with
  | some w =>
    rw [e1] at e
    cases e
    exact .inl (h E s G M H H0 x y u v _ Q R rx ry e1 q)
  | none =>
    rw [e1] at e
    exact .inr (h' E s G M H H0 x y u v b Q R rx ry e q)
theorem repE_blI {E : Ent} {H0 : Hp} {G : Gh} {M : Mem} {s : L2.St} {H : Hp} {b : Bool} : RepE X.K E H0 G M s H (.v (.bl b)) (.bl b) := show RepV X.K G H (.bl b) _ by simp only [RepV]
theorem tB_two {f g : Sm EV} {r : R2} {op : Cp2} (ok : Cp2Ok X r op) {s : L2.St} {H : Hp} {Q : VK} (h : tB' X E W (b2 op f g) s H fun b H' => Q (.bl b) H') : tOp r (tE X E W f) (tE X E W g) s H Q := by
  obtain ⟨G, M, R, h⟩ := h
  refine tE_one R h fun G1 M1 H1 x u V1 R1 rx h1 => ?_
  refine tE_one R1 h1 fun G2 M2 H2 y v V2 R2 ry h2 => ?_
  have V := V1.trans V2
  simp only [optR] at h2
  split at h2
  · rename_i b eo
    exact ok E s G2 M2 H2 H x y u v b Q R2 (rx.evo V2) (ry.old V1.dom) eo (h2.now R2)
  · exact False.elim h2
theorem tE_eB {f : Sm Bool} {s : L2.St} {H : Hp} {Q : VK} (h : tE X E W (eB f) s H Q) : tB' X E W f s H fun b H' => Q (.bl b) H' := by
  obtain ⟨G, M, R, h⟩ := h
  refine tB_one R h fun G1 M1 H1 b V1 R1 h1 => ?_
  exact h1.now R1 _ repE_blI
section
variable {a b c : Expr} {f g l : Sm EV} {pos : Pos}
theorem fe_cmp {op : CmpOp} {r : R2} {o : Cp2} (ho : OpR X (compareOp op) r) (k : Cp2Ok X r o) (ha : FE X E W a f) (hb : FE X E W b g) (hm : behindInMarks op b = false) : FE X E W (.Compare a [op] [b] pos) (eB (b2 o f g)) :=
  ⟨PE.weak (pe_cmpR ho ha.pe hb.pe hm) fun _ _ _ h => tB_two k (tE_eB h)⟩
theorem ft_cmp {op : CmpOp} {r : R2} {o : Cp2} (ho : OpR X (compareOp op) r) (k : Cp2Ok X r o) (ha : FE X E W a f) (hb : FE X E W b g) (hm : behindInMarks op b = false) : FT X E W (.Compare a [op] [b] pos) (b2 o f g) :=
  ⟨PT.weak (pt_cmpR ho ha.pe hb.pe hm) fun s H Q h => tB_two (Q := fun x H' => ∃ k, x = .bl k ∧ Q k H') k (by
    obtain ⟨G, M, R, h⟩ := h
    exact ⟨G, M, R, h.imp fun _ _ _ b _ _ q => ⟨b, rfl, q⟩⟩)⟩
/-- a chain of two -/
@[simp] def b3 (o o' : Cp2) (f g l : Sm EV) : Sm Bool := fun M => (f M).bnd fun x M1 => (g M1).bnd fun y M2 => (optR (o x y M2) M2).bnd fun b M3 => if b = true then (l M3).bnd fun z M4 => optR (o' y z M4) M4 else .ok false M3
theorem tB_three {r r' : R2} {o o' : Cp2} (k : Cp2Ok X r o) (k' : Cp2Ok X r' o') {s : L2.St} {H : Hp} {Q : VK} (h : tB' X E W (b3 o o' f g l) s H fun b H' => Q (.bl b) H') : tChain r r' (tE X E W f) (tE X E W g) (tE X E W l) s H Q := by
  obtain ⟨G, M, R, h⟩ := h
  refine tE_one R h fun G1 M1 H1 x u V1 R1 rx h1 => ?_
  refine tE_one R1 h1 fun G2 M2 H2 y v V2 R2 ry h2 => ?_
  have V := V1.trans V2
  cases eo : o x y M2 with
  | none => simp only [eo, optR, Res.bnd] at h2; exact False.elim h2
  | some b =>
    simp only [eo, optR, Res.bnd] at h2
    refine k E s G2 M2 H2 H x y u v b _ R2 (rx.evo V2) (ry.old V1.dom) eo ⟨b, rfl, ?_⟩
    cases b with
    | false => exact iteF (h2.now R2)
    | true =>
      rw [if_pos rfl] at h2
      refine iteT (tE_one R2 h2 fun G3 M3 H3 z w V3 R3 rz h3 => ?_)
      cases eo' : o' y z M3 with
      | none => rw [eo'] at h3; exact False.elim h3
      | some b =>
        rw [eo'] at h3
        exact k' E s G3 M3 H3 H1 y z v w b Q R3 (ry.evo V3) (rz.old V2.dom) eo' (OutP.now h3 R3)
theorem fe_chain {op op' : CmpOp} {r r' : R2} {o o' : Cp2} (ho : OpR X (compareOp op) r) (ho' : OpR X (compareOp op') r') (k : Cp2Ok X r o) (k' : Cp2Ok X r' o') (ha : FE X E W a f) (hb : FE X E W b g) (hc : FE X E W c l)
    (hm : lastMarks [op, op'] [b, c] = false := by with_unfolding_all rfl) : FE X E W (.Compare a [op, op'] [b, c] pos) (eB (b3 o o' f g l)) :=
  ⟨PE.weak (pe_chain ho ho' ha.pe hb.pe hc.pe hm) fun _ _ _ h => tB_three k k' (tE_eB h)⟩
theorem ft_chain {op op' : CmpOp} {r r' : R2} {o o' : Cp2} (ho : OpR X (compareOp op) r) (ho' : OpR X (compareOp op') r') (k : Cp2Ok X r o) (k' : Cp2Ok X r' o') (ha : FE X E W a f) (hb : FE X E W b g) (hc : FE X E W c l)
    (hm : lastMarks [op, op'] [b, c] = false := by with_unfolding_all rfl) : FT X E W (.Compare a [op, op'] [b, c] pos) (b3 o o' f g l) :=
  ⟨PT.weak (pt_chain ho ho' ha.pe hb.pe hc.pe hm) fun s H Q h => tB_three (Q := fun x H' => ∃ k, x = .bl k ∧ Q k H') k k' (by
    obtain ⟨G, M, R, h⟩ := h
    exact ⟨G, M, R, h.imp fun _ _ _ b _ _ q => ⟨b, rfl, q⟩⟩)⟩
end
@[simp] def cpI (p : Int → Int → Bool) : Cp2 := fun x y _ => match x, y with
  | .v (.int i), .v (.int j) => some (p i j)
  | _, _ => none
theorem cpI_ok {p : Int → Int → Bool} : Cp2Ok X (rI0 fun i j => .bl (p i j)) (cpI p) := by
  intro E s G M H H0 x y u v b Q R rx ry e q
  simp only [cpI] at e
  split at e
  · rename_i i j
    cases e
    exact ⟨i, j, repE_int rx, repE_int ry, q⟩
  · cases e
@[simp] def cpLt : Cp2 := cpI fun i j => decide (i < j)
@[simp] def cpLe : Cp2 := cpI fun i j => decide (i ≤ j)
@[simp] def cpGt : Cp2 := cpI fun i j => decide (j < i)
@[simp] def cpGe : Cp2 := cpI fun i j => decide (j ≤ i)
/-! equality of data -/
mutual
def PV.toD : PV → Option PyData
  | .non => some .none
  | .bl b => some (.bool b)
  | .int i => some (.int i)
  | .str x => some (.str x)
  | .tup xs => (toDs xs).map .tuple
  | .lst xs => (toDs xs).map .list
  | .rol xs => (toDs xs).map .list
  | _ => none
def toDs : List PV → Option (List PyData)
  | [] => some []
  | x :: xs => match x.toD, toDs xs with
    | some d, some ds => some (d :: ds)
    | _, _ => none
end
@[simp] def evD (M : Mem) (e : EV) : Option PyData := match e with
  | .v (.ref r) => ((asLst M (.v (.ref r))).bind toDs).map .list
  | .v p => p.toD
  | e => ((asLst M e).bind toDs).map .list
mutual
theorem toD_rep {K : PySem.W.Frag} {G : Gh} {H : Hp} : ∀ (p : PV) (d : PyData) (v : V), p.toD = some d → RepV K G H p v → Dp K H v d
  | .non, d, v, e, h => by simp only [PV.toD] at e; cases e; simp only [RepV] at h; subst h; exact .non
  | .bl b, d, v, e, h => by simp only [PV.toD] at e; cases e; simp only [RepV] at h; subst h; exact .bl b
  | .int b, d, v, e, h => by simp only [PV.toD] at e; cases e; simp only [RepV] at h; subst h; exact .int b
  | .str b, d, v, e, h => by simp only [PV.toD] at e; cases e; simp only [RepV] at h; subst h; exact .str b
  | .tup xs, d, v, e, h => by
    simp only [PV.toD] at e
    cases e1 : toDs xs with
    | none => rw [e1] at e; cases e
    | some ds =>
      rw [e1] at e; cases e
      obtain ⟨a, us, rfl, q, r, z⟩ := tup_of h
      exact .tup q (toDs_rep xs ds us e1 r)
  | .lst xs, d, v, e, h => by
    simp only [PV.toD] at e
    cases e1 : toDs xs with
    | none => rw [e1] at e; cases e
    | some ds =>
      rw [e1] at e; cases e
      simp only [RepV] at h
      obtain ⟨a, us, rfl, ⟨_, _, q⟩, r⟩ := h
      exact .lst (.inl q) (toDs_rep xs ds us e1 r)
  | .rol xs, d, v, e, h => by
    simp only [PV.toD] at e
    cases e1 : toDs xs with
    | none => rw [e1] at e; cases e
    | some ds =>
      rw [e1] at e; cases e
      simp only [RepV] at h
      obtain ⟨a, us, rfl, q, r⟩ := h
      exact .lst q.sq (toDs_rep xs ds us e1 r)
  | .dct _ _, d, v, e, h => by simp only [PV.toD] at e; cases e
  | .ref _, d, v, e, h => by simp only [PV.toD] at e; cases e
  | .con _, d, v, e, h => by simp only [PV.toD] at e; cases e
theorem toDs_rep {K : PySem.W.Frag} {G : Gh} {H : Hp} : ∀ (ps : List PV) (ds : List PyData) (vs : List V), toDs ps = some ds → RepVs K G H ps vs → DpAll K H vs ds
  | [], ds, vs, e, h => by simp only [toDs] at e; cases e; rw [RepVs.nil_iff.mp h]; exact .nil
  | p :: ps, ds, vs, e, h => by
    obtain ⟨u, us, rfl, r, t⟩ := RepVs.cons_iff.mp h
    simp only [toDs] at e
    split at e
    · rename_i d ds' e1 e2
      cases e
      exact .cons (toD_rep p d u e1 r) (toDs_rep ps ds' us e2 t)
    · cases e
end
theorem evD_rep {E : Ent} {H0 : Hp} {G : Gh} {M : Mem} {s : L2.St} {H : Hp} {e : EV} {u : V} {d : PyData} (R : StRep X.K E G M s H) (r : RepE X.K E H0 G M s H e u) (h : evD M e = some d) : Dp X.K H u d := by
  have viaL : ∀ {e : EV}, RepE X.K E H0 G M s H e u → ((asLst M e).bind toDs).map .list = some d → Dp X.K H u d := fun {e} r h => by
    cases e1 : asLst M e with
    | none => rw [e1] at h; cases h
    | some xs =>
      rw [e1] at h
      have h : (toDs xs).map PyData.list = some d := h
      cases e2 : toDs xs with
      | none => rw [e2] at h; cases h
      | some ds =>
        rw [e2] at h; cases h
        obtain ⟨a, us, rfl, q, rr, z⟩ := lst_of R r e1
        exact .lst q (toDs_rep xs ds us e2 rr)
  cases e with
  | v p =>
    cases p with
    | ref c => exact viaL r h
    | non => exact toD_rep (G := G) _ _ _ h r
    | bl b => exact toD_rep (G := G) _ _ _ h r
    | int b => exact toD_rep (G := G) _ _ _ h r
    | str b => exact toD_rep (G := G) _ _ _ h r
    | tup b => exact toD_rep (G := G) _ _ _ h r
    | lst b => exact toD_rep (G := G) _ _ _ h r
    | dct b c => exact toD_rep (G := G) _ _ _ h r
    | con b => exact toD_rep (G := G) _ _ _ h r
    | rol b => exact toD_rep (G := G) _ _ _ h r
  | fr o => exact viaL r h
  | sl i => exact viaL r h
/-- == of scalars -/
@[simp] def eqS : Cp2 := fun x y _ => match x, y with
  | .v (.int i), .v (.int j) => some (decide (i = j))
  | .v (.str i), .v (.str j) => some (decide (i = j))
  | .v (.bl i), .v (.bl j) => some (decide (i = j))
  | .v .non, .v .non => some true
  | .v .non, .v (.int _) => some false
  | .v .non, .v (.str _) => some false
  | .v (.int _), .v .non => some false
  | .v (.str _), .v .non => some false
  | _, _ => none
theorem eqS_ok {E : Ent} {H0 : Hp} {G : Gh} {M : Mem} {s : L2.St} {H : Hp} {x y : EV} {u v : V} {b : Bool} (rx : RepE X.K E H0 G M s H x u) (ry : RepE X.K E H0 G M s H y v) (h : eqS x y M = some b) : scal u v = true ∧ decide (u = v) = b := by
  have non : ∀ {u : V}, RepE X.K E H0 G M s H (.v .non) u → u = .non := fun {u} h => by
    have h : RepV X.K G H .non u := h
    simpa only [RepV] using h
  simp only [eqS] at h
  split at h
  · cases h; rw [repE_int rx, repE_int ry]; exact ⟨rfl, by simp⟩
  · cases h; rw [repE_str rx, repE_str ry]; exact ⟨rfl, by simp⟩
  · cases h; rw [repE_bl rx, repE_bl ry]; exact ⟨rfl, by simp⟩
  · cases h; rw [non rx, non ry]; exact ⟨rfl, by simp⟩
  · cases h; rw [non rx, repE_int ry]; exact ⟨rfl, by simp⟩
  · cases h; rw [non rx, repE_str ry]; exact ⟨rfl, by simp⟩
  · cases h; rw [repE_int rx, non ry]; exact ⟨rfl, by simp⟩
  · cases h; rw [repE_str rx, non ry]; exact ⟨rfl, by simp⟩
  · cases h
@[simp] def eqD : Cp2 := fun x y M => match evD M x, evD M y with
  | some d, some e => if SeqAt.shaped d && SeqAt.shaped e then some (PyData.eqv d e) else none
  | _, _ => none
theorem eqD_ok {E : Ent} {H0 : Hp} {G : Gh} {M : Mem} {s : L2.St} {H : Hp} {x y : EV} {u v : V} {b : Bool} (R : StRep X.K E G M s H) (rx : RepE X.K E H0 G M s H x u) (ry : RepE X.K E H0 G M s H y v) (h : eqD x y M = some b) :
    ∃ d e, Dp X.K H u d ∧ Dp X.K H v e ∧ SeqAt.shaped d = true ∧ SeqAt.shaped e = true ∧ PyData.eqv d e = b := by
  simp only [eqD] at h
  split at h
  · rename_i d e e1 e2
    split at h
    · rename_i z
      rw [Bool.and_eq_true] at z
      cases h
      exact ⟨d, e, evD_rep R rx e1, evD_rep R ry e2, z.1, z.2, rfl⟩
    · cases h
  · cases h
@[simp] def cpEq : Cp2 := fun x y M => (eqS x y M).or (eqD x y M)
@[simp] def cpNe : Cp2 := fun x y M => ((eqS x y M).map (!·)).or ((eqD x y M).map (!·))
theorem cpEq_ok : Cp2Ok X (fun x y H Q => rEq x y H Q ∨ rEqD X.K x y H Q) cpEq := by
  refine Cp2Ok.or (fun E s G M H H0 x y u v b Q R rx ry e q => ?_) fun E s G M H H0 x y u v b Q R rx ry e q => ?_
  · obtain ⟨h1, h2⟩ := eqS_ok rx ry e
    exact ⟨h1, by rw [h2]; exact q⟩
  · obtain ⟨d, d', h1, h2, h3, h4, h5⟩ := eqD_ok R rx ry e
    exact ⟨d, d', h1, h2, h3, h4, by rw [h5]; exact q⟩
theorem cpNe_ok : Cp2Ok X (fun x y H Q => rNe x y H Q ∨ rNeD X.K x y H Q) cpNe := by
  refine Cp2Ok.or (o := fun x y M => (eqS x y M).map (!·)) (o' := fun x y M => (eqD x y M).map (!·)) (fun E s G M H H0 x y u v b Q R rx ry e q => ?_) fun E s G M H H0 x y u v b Q R rx ry e q => ?_
  · cases e1 : eqS x y M with
    | none => simp only [e1] at e; cases e
    | some c =>
      simp only [e1] at e; cases e
      obtain ⟨h1, h2⟩ := eqS_ok rx ry e1
      exact ⟨h1, by rw [h2]; exact q⟩
  · cases e1 : eqD x y M with
    | none => simp only [e1] at e; cases e
    | some c =>
      simp only [e1] at e; cases e
      obtain ⟨d, d', h1, h2, h3, h4, h5⟩ := eqD_ok R rx ry e1
      exact ⟨d, d', h1, h2, h3, h4, by rw [h5]; exact q⟩
theorem op_eqA (A : Amb Z X W N sc fs k) : OpR X (compareOp .Eq) (fun x y H Q => rEq x y H Q ∨ rEqD X.K x y H Q) := op_eq.or (op_eqD A.u64)
theorem op_neA (A : Amb Z X W N sc fs k) : OpR X (compareOp .NotEq) (fun x y H Q => rNe x y H Q ∨ rNeD X.K x y H Q) := op_ne.or (op_neD A.u64)
section
variable {a b c : Expr} {f g l : Sm EV} {pos : Pos}
theorem fe_eq (A : Amb Z X W N sc fs k) (ha : FE X E W a f) (hb : FE X E W b g) : FE X E W (.Compare a [.Eq] [b] pos) (eB (b2 cpEq f g)) := fe_cmp (op_eqA A) cpEq_ok ha hb (nomark _)
theorem ft_eq (A : Amb Z X W N sc fs k) (ha : FE X E W a f) (hb : FE X E W b g) : FT X E W (.Compare a [.Eq] [b] pos) (b2 cpEq f g) := ft_cmp (op_eqA A) cpEq_ok ha hb (nomark _)
theorem fe_ne (A : Amb Z X W N sc fs k) (ha : FE X E W a f) (hb : FE X E W b g) : FE X E W (.Compare a [.NotEq] [b] pos) (eB (b2 cpNe f g)) := fe_cmp (op_neA A) cpNe_ok ha hb (nomark _)
theorem ft_ne (A : Amb Z X W N sc fs k) (ha : FE X E W a f) (hb : FE X E W b g) : FT X E W (.Compare a [.NotEq] [b] pos) (b2 cpNe f g) := ft_cmp (op_neA A) cpNe_ok ha hb (nomark _)
theorem fe_lt (ha : FE X E W a f) (hb : FE X E W b g) : FE X E W (.Compare a [.Lt] [b] pos) (eB (b2 cpLt f g)) := fe_cmp op_lt cpI_ok ha hb (nomark _)
theorem ft_lt (ha : FE X E W a f) (hb : FE X E W b g) : FT X E W (.Compare a [.Lt] [b] pos) (b2 cpLt f g) := ft_cmp op_lt cpI_ok ha hb (nomark _)
theorem fe_le (ha : FE X E W a f) (hb : FE X E W b g) : FE X E W (.Compare a [.LtE] [b] pos) (eB (b2 cpLe f g)) := fe_cmp op_le cpI_ok ha hb (nomark _)
theorem ft_le (ha : FE X E W a f) (hb : FE X E W b g) : FT X E W (.Compare a [.LtE] [b] pos) (b2 cpLe f g) := ft_cmp op_le cpI_ok ha hb (nomark _)
theorem fe_gt (ha : FE X E W a f) (hb : FE X E W b g) : FE X E W (.Compare a [.Gt] [b] pos) (eB (b2 cpGt f g)) := fe_cmp op_gt cpI_ok ha hb (nomark _)
theorem ft_gt (ha : FE X E W a f) (hb : FE X E W b g) : FT X E W (.Compare a [.Gt] [b] pos) (b2 cpGt f g) := ft_cmp op_gt cpI_ok ha hb (nomark _)
theorem fe_ge (ha : FE X E W a f) (hb : FE X E W b g) : FE X E W (.Compare a [.GtE] [b] pos) (eB (b2 cpGe f g)) := fe_cmp op_ge cpI_ok ha hb (nomark _)
theorem ft_ge (ha : FE X E W a f) (hb : FE X E W b g) : FT X E W (.Compare a [.GtE] [b] pos) (b2 cpGe f g) := ft_cmp op_ge cpI_ok ha hb (nomark _)
end
/-! is None -/
@[simp] def isN (M : Mem) (e : EV) : Option Bool := match e with
  | .v .non => some true
  | .sl i => match slotAt M i with
    | some (.own _) => some false
    | _ => none
  | _ => some false
@[simp] def bNon (f : Sm EV) : Sm Bool := fun M => (f M).bnd fun x M1 => optR (isN M1 x) M1
@[simp] def bNot (f : Sm Bool) : Sm Bool := fun M => (f M).bnd fun x M1 => .ok (!x) M1
theorem isN_rep {E : Ent} {H0 : Hp} {G : Gh} {M : Mem} {s : L2.St} {H : Hp} {x : EV} {u : V} {b : Bool} (R : StRep X.K E G M s H) (rx : RepE X.K E H0 G M s H x u) (hx : isN M x = some b) : decide (u = .non) = b := by
  cases x with
  | v p =>
    have rx : RepV X.K G H p u := rx
    cases p <;> simp only [RepV] at rx <;> simp only [isN, Option.some.injEq] at hx <;> subst hx
    case non => subst rx; rfl
    case bl => subst rx; rfl
    case int => subst rx; rfl
    case str => subst rx; rfl
    case con => subst rx; rfl
    case ref => obtain ⟨a, z, _⟩ := rx; subst z; rfl
    all_goals (obtain ⟨a, us, z, _⟩ := rx; subst z; rfl)
  | fr o => obtain ⟨a, w, z, _⟩ := rx; subst z; cases hx; rfl
  | sl i =>
    simp only [isN] at hx
    split at hx
    · rename_i o ho
      cases hx
      obtain ⟨a, w, z, _⟩ := R.own i o (slotAt_some ho)
      have rx : s[i]? = some (some u) := rx
      rw [z] at rx
      cases rx
      rfl
    · cases hx
theorem tB_non {f : Sm EV} {s : L2.St} {H : Hp} {Q : VK} (h : tB' X E W (bNon f) s H fun b H' => Q (.bl b) H') : tIsN (tE X E W f) s H Q := by
  obtain ⟨G, M, R, h⟩ := h
  refine tE_one R h fun G1 M1 H1 x u V1 R1 rx h1 => ?_
  cases eo : isN M1 x with
  | none => rw [eo] at h1; exact False.elim h1
  | some b =>
    rw [eo] at h1
    rw [isN_rep R1 rx eo]
    exact OutP.now h1 R1
theorem tB_not {f : Sm Bool} {s : L2.St} {H : Hp} {Q : Bool → Hp → Prop} (h : tB' X E W (bNot f) s H Q) : tB' X E W f s H fun b H' => Q (!b) H' := by
  obtain ⟨G, M, R, h⟩ := h
  exact tB_one R h fun G1 M1 H1 b V1 R1 h1 => h1.now R1
section
variable {a b : Expr} {f g : Sm EV} {pos : Pos}
theorem tIsN_tNotN {te : TE} {s : L2.St} {H : Hp} {Q : VK} (h : tIsN te s H fun x H' => ∃ c, x = .bl c ∧ Q (.bl !c) H') : te s H fun x H1 => ∃ c, V.bl (decide (x = .non)) = .bl c ∧ Q (.bl !c) H1 := h
theorem fe_isN {j pos'} (ha : FE X E W a f) : FE X E W (.Compare a [.Is] [.Constant .none j pos'] pos) (eB (bNon f)) :=
  ⟨PE.weak (pe_cmp (pc_isN ha.pe) (nomark _)) fun _ _ _ h => tB_non (tE_eB h)⟩
theorem ft_isN {j pos'} (ha : FE X E W a f) : FT X E W (.Compare a [.Is] [.Constant .none j pos'] pos) (bNon f) :=
  ⟨PT.weak (pt_cmp (pc_isN ha.pe) (nomark _)) fun s H Q h => tB_non (Q := fun x H' => ∃ k, x = .bl k ∧ Q k H') (by
    obtain ⟨G, M, R, h⟩ := h
    exact ⟨G, M, R, h.imp fun _ _ _ b _ _ q => ⟨b, rfl, q⟩⟩)⟩
theorem tNotN_of {s : L2.St} {H : Hp} {Q : VK} (h : tB' X E W (bNot (bNon f)) s H fun b H' => Q (.bl b) H') : tNotN (tE X E W f) s H Q := by
  obtain ⟨G, M, R, h⟩ := tB_not h
  refine tE_one R h fun G1 M1 H1 x u V1 R1 rx h1 => ?_
  cases eo : isN M1 x with
  | none => rw [eo] at h1; exact False.elim h1
  | some b =>
    rw [eo] at h1
    rw [isN_rep R1 rx eo]
    exact OutP.now h1 R1
theorem fe_notN {j pos'} (ha : FE X E W a f) : FE X E W (.Compare a [.IsNot] [.Constant .none j pos'] pos) (eB (bNot (bNon f))) :=
  ⟨PE.weak (pe_cmp (pc_notN ha.pe) (nomark _)) fun _ _ _ h => tNotN_of (tE_eB h)⟩
theorem ft_notN {j pos'} (ha : FE X E W a f) : FT X E W (.Compare a [.IsNot] [.Constant .none j pos'] pos) (bNot (bNon f)) :=
  ⟨PT.weak (pt_cmp (pc_notN ha.pe) (nomark _)) fun s H Q h => tNotN_of (Q := fun x H' => ∃ k, x = .bl k ∧ Q k H') (by
    obtain ⟨G, M, R, h⟩ := h
    exact ⟨G, M, R, h.imp fun _ _ _ b _ _ q => ⟨b, rfl, q⟩⟩)⟩
end
end
end HF

end
section
set_option Elab.async false
set_option linter.all false
set_option maxRecDepth 20000
set_option autoImplicit false
/-! HF5: and, or, not, displays, subscripts, slices, built-in functions of one or two arguments. -/
namespace HF
open PySem PySem.Spec PyProof.Rows L2
section
variable {X : Cx} {E : Ent} {W : WX} {N : List Str} {sc : Scope} {fs : Str → Bool} {k : Nat} {Z : Wd}
/-! ### and, or, not, if else -/
@[simp] def bAnd (f g : Sm Bool) : Sm Bool := fun M => (f M).bnd fun b M1 => if b = true then g M1 else .ok false M1
@[simp] def bOr (f g : Sm Bool) : Sm Bool := fun M => (f M).bnd fun b M1 => if b = true then .ok true M1 else g M1
theorem tB_and {f g : Sm Bool} {s : L2.St} {H : Hp} {Q : Bool → Hp → Prop} (h : tB' X E W (bAnd f g) s H Q) : tAnd (tB' X E W f) (tB' X E W g) s H Q := by
  obtain ⟨G, M, R, h⟩ := h
  refine tB_one R h fun G1 M1 H1 b V1 R1 h1 => ?_
  cases b with
  | true =>
    rw [if_pos rfl] at h1
    exact iteT ⟨G1, M1, R1, h1⟩
  | false => exact iteF (OutP.now h1 R1)
theorem tB_or {f g : Sm Bool} {s : L2.St} {H : Hp} {Q : Bool → Hp → Prop} (h : tB' X E W (bOr f g) s H Q) : tOr (tB' X E W f) (tB' X E W g) s H Q := by
  obtain ⟨G, M, R, h⟩ := h
  refine tB_one R h fun G1 M1 H1 b V1 R1 h1 => ?_
  cases b with
  | true => exact iteT (OutP.now h1 R1)
  | false =>
    rw [if_neg Bool.false_ne_true] at h1
    exact iteF ⟨G1, M1, R1, h1⟩
section
variable {a b : Expr} {rest : List Expr} {f g : Sm Bool} {pos : Pos}
theorem FW.ft (h : FW X E W a f) : FT X E W a f := ⟨h.pe.pt⟩
theorem fw_and1 (h : FT X E W a f) : FW X E W (.BoolOp .And [a] pos) f := ⟨pw_and1 h.pe⟩
theorem fw_or1 (h : FT X E W a f) : FW X E W (.BoolOp .Or [a] pos) f := ⟨pw_or1 h.pe⟩
theorem fw_and (h : FT X E W a f) (h' : FW X E W (.BoolOp .And (b :: rest) pos) g) : FW X E W (.BoolOp .And (a :: b :: rest) pos) (bAnd f g) := ⟨PW.weak (pw_and h.pe h'.pe) fun _ _ _ => tB_and⟩
theorem fw_or (h : FT X E W a f) (h' : FW X E W (.BoolOp .Or (b :: rest) pos) g) : FW X E W (.BoolOp .Or (a :: b :: rest) pos) (bOr f g) := ⟨PW.weak (pw_or h.pe h'.pe) fun _ _ _ => tB_or⟩
theorem ft_not (h : FT X E W a f) : FT X E W (.UnaryOp .Not a pos) (bNot f) := ⟨PT.weak (pt_not h.pe) fun _ _ _ => tB_not⟩
end
/-- the truth of a truth -/
@[simp] def bVal (f : Sm EV) : Sm Bool := fun M => (f M).bnd fun x M1 => match x with
  | .v (.bl b) => .ok b M1
  | _ => .bad
theorem tB_val {f : Sm EV} {s : L2.St} {H : Hp} {Q : Bool → Hp → Prop} (h : tB' X E W (bVal f) s H Q) : tE X E W f s H fun x H' => ∃ c, x = .bl c ∧ Q c H' := by
  obtain ⟨G, M, R, h⟩ := h
  refine tE_one R h fun G1 M1 H1 x u V1 R1 rx h1 => ?_
  split at h1
  · exact ⟨_, repE_bl rx, OutP.now h1 R1⟩
  · exact False.elim h1
section
variable {a b c : Expr} {rest : List Expr} {f g l : Sm EV} {pos : Pos}
theorem ft_val (h : FE X E W a f) (he : ∀ whole, isTrue a X.env whole = (do let v ← whole; standAt a.pos; holding [v] (truthy v)) := by intro _; rfl) : FT X E W a (bVal f) := ⟨PT.weak (pt_val h.pe he) fun _ _ _ => tB_val⟩
@[simp] def eAnd (f g : Sm EV) : Sm EV := fun M => (bVal f M).bnd fun b M1 => if b = true then g M1 else .ok (.v (.bl false)) M1
@[simp] def eOr (f g : Sm EV) : Sm EV := fun M => (bVal f M).bnd fun b M1 => if b = true then .ok (.v (.bl true)) M1 else g M1
theorem tE_re {s : L2.St} {G G1 : Gh} {M M1 : Mem} {H H1 : Hp} {Q : VK} {r : Res EV} (V1 : Evo s G M H G1 M1 H1) (h : OutP X E W s G1 M1 H1 r fun G' M' H' ev => ∀ u, RepE X.K E H G' M' s H' ev u → Q u H') :
    OutP X E W s G1 M1 H1 r fun G' M' H' ev => ∀ u, RepE X.K E H1 G' M' s H' ev u → Q u H' := h.imp fun _ _ _ _ _ _ q u ru => q u (ru.old V1.dom)
theorem fe_one {op} (h : FE X E W a f) : FE X E W (.BoolOp op [a] pos) f := ⟨pe_one h.pe⟩
theorem fe_and (h : FE X E W a f) (h' : FE X E W (.BoolOp .And (b :: rest) pos) g) : FE X E W (.BoolOp .And (a :: b :: rest) pos) (eAnd f g) := by
  refine ⟨PE.weak (pe_and h.pe h'.pe) ?_⟩
  rintro s H Q ⟨G, M, R, h⟩
  refine tB_val (Q := fun c H1 => if c = true then tE X E W g s H1 Q else Q (.bl false) H1) (tB_one R h fun G1 M1 H1 b V1 R1 h1 => ?_)
  cases b with
  | true =>
    rw [if_pos rfl] at h1
    exact iteT ⟨G1, M1, R1, tE_re V1 h1⟩
  | false => exact iteF (OutP.now h1 R1 _ repE_blI)
theorem fe_or (h : FE X E W a f) (h' : FE X E W (.BoolOp .Or (b :: rest) pos) g) : FE X E W (.BoolOp .Or (a :: b :: rest) pos) (eOr f g) := by
  refine ⟨PE.weak (pe_or h.pe h'.pe) ?_⟩
  rintro s H Q ⟨G, M, R, h⟩
  refine tB_val (Q := fun c H1 => if c = true then Q (.bl true) H1 else tE X E W g s H1 Q) (tB_one R h fun G1 M1 H1 b V1 R1 h1 => ?_)
  cases b with
  | true => exact iteT (OutP.now h1 R1 _ repE_blI)
  | false =>
    rw [if_neg Bool.false_ne_true] at h1
    exact iteF ⟨G1, M1, R1, tE_re V1 h1⟩
theorem fe_not (h : FE X E W a f) : FE X E W (.UnaryOp .Not a pos) (eB (bNot (bVal f))) := by
  refine ⟨PE.weak (pe_not h.pe) fun s H Q h => ?_⟩
  exact tB_val (tB_not (tE_eB h))
@[simp] def eIf (c : Sm Bool) (f g : Sm EV) : Sm EV := fun M => (c M).bnd fun b M1 => if b = true then f M1 else g M1
theorem fe_ifExp {t : Sm Bool} (hc : FT X E W c t) (h : FE X E W a f) (h' : FE X E W b g) : FE X E W (.IfExp c a b pos) (eIf t f g) := by
  refine ⟨PE.weak (pe_ifExp hc.pe h.pe h'.pe) ?_⟩
  rintro s H Q ⟨G, M, R, h⟩
  refine tB_one R h fun G1 M1 H1 b V1 R1 h1 => ?_
  cases b with
  | true =>
    rw [if_pos rfl] at h1
    exact iteT ⟨G1, M1, R1, tE_re V1 h1⟩
  | false =>
    rw [if_neg Bool.false_ne_true] at h1
    exact iteF ⟨G1, M1, R1, tE_re V1 h1⟩
end

/-! ### arguments, displays -/
@[simp] def aNil : Sm (List PV) := fun M => .ok [] M
@[simp] def aCons (f : Sm PV) (g : Sm (List PV)) : Sm (List PV) := fun M => (f M).bnd fun p M1 => (g M1).bnd fun ps M2 => .ok (p :: ps) M2
structure FL (X : Cx) (E : Ent) (W : WX) (es : List Expr) (f : Sm (List PV)) : Prop where
  fa : FA X E W es f
  len : ∀ M ps M', f M = .ok ps M' → ps.length = es.length
section
variable {e : Expr} {es : List Expr} {f : Sm PV} {g : Sm (List PV)} {pos : Pos}
theorem fl_nil : FL X E W [] aNil := by
  refine ⟨⟨PA.weak pa_nil ?_⟩, fun M ps M' h => by cases h; rfl⟩
  rintro s H Q ⟨G, M, R, h⟩
  exact h.now R [] RepVs.nil
theorem fl_cons (he : FP X E W e f) (hr : FL X E W es g) (hs : starEach (e :: es) X.env = (false, eval e X.env) :: starEach es X.env := by rfl) : FL X E W (e :: es) (aCons f g) := by
  refine ⟨⟨PA.weak (pa_cons he.pe hr.fa.pe hs) ?_⟩, fun M ps M' h => ?_⟩
  · rintro s H Q ⟨G, M, R, h⟩
    refine tP_one R h fun G1 M1 H1 p u V1 R1 rp h1 => ?_
    refine tL_one R1 h1 fun G2 M2 H2 ps us V2 R2 rps h2 => ?_
    exact OutP.now h2 R2 _ (RepVs.cons (RepV.mono V2.ext _ _ rp) rps)
  · simp only [aCons] at h
    cases h1 : f M with
    | ok p M1 =>
      rw [h1] at h
      simp only [Res.bnd] at h
      cases h2 : g M1 with
      | ok ps' M2 =>
        rw [h2] at h
        cases h
        rw [List.length_cons, List.length_cons, hr.len _ _ _ h2]
      | exn c M2 => rw [h2] at h; cases h
      | bad => rw [h2] at h; cases h
    | exn c M1 => rw [h1] at h; cases h
    | bad => rw [h1] at h; cases h
@[simp] def eTup (g : Sm (List PV)) : Sm EV := fun M => (g M).bnd fun ps M1 => .ok (.v (.tup ps)) M1
@[simp] def eLst (g : Sm (List PV)) : Sm EV := fun M => (g M).bnd fun ps M1 => .ok (.fr (.lst ps)) M1
theorem fe_tup {x1} (h : FL X E W es g) (z : es.length ≤ 1000 := by decide) : FE X E W (.Tuple es x1 pos) (eTup g) := by
  refine ⟨PE.weak (pe_tup h.fa.pe) ?_⟩
  rintro s H Q ⟨G, M, R, hh⟩
  refine ⟨G, M, R, ?_⟩
  cases hg : g M with
  | exn c M1 => simp only [eTup, hg, Res.bnd] at hh; exact hh
  | bad => simp only [eTup, hg, Res.bnd] at hh; exact hh
  | ok ps M1 =>
    simp only [eTup, hg, Res.bnd] at hh
    intro G1 H1 V1 R1 us rr
    have zz : us.length ≤ sizeLine := by rw [← rr.length, h.len M ps M1 hg, sizeLine_eq]; omega
    refine ⟨zz, fun p hp => ?_⟩
    obtain ⟨V2, R2, r2⟩ := rep_newtup R1 rr zz hp
    exact hh _ _ (V1.trans V2) R2 _ r2
theorem fe_lst (h : FL X E W es g) (z : es.length ≤ 1000 := by decide) : FE X E W (.List es pos) (eLst g) := by
  refine ⟨PE.weak (pe_lst h.fa.pe) ?_⟩
  rintro s H Q ⟨G, M, R, hh⟩
  refine ⟨G, M, R, ?_⟩
  cases hg : g M with
  | exn c M1 => simp only [eLst, hg, Res.bnd] at hh; exact hh
  | bad => simp only [eLst, hg, Res.bnd] at hh; exact hh
  | ok ps M1 =>
    simp only [eLst, hg, Res.bnd] at hh
    intro G1 H1 V1 R1 us rr
    have zz : us.length ≤ sizeLine := by rw [← rr.length, h.len M ps M1 hg, sizeLine_eq]; omega
    refine ⟨zz, fun p hp => ?_⟩
    obtain ⟨V2, R2, r2⟩ := rep_newlst (H0 := H) R1 V1.dom rr zz hp
    exact hh _ _ (V1.trans V2) R2 _ r2
/-- {} -/
@[simp] def eDct0 : Sm EV := fun M => .ok (.fr (.dct [] [])) M
theorem fe_dct0 : FE X E W (.Dict [] [] pos) eDct0 := by
  refine ⟨PE.weak pe_dnewK ?_⟩
  rintro s H Q ⟨G, M, R, hh⟩ p hp
  obtain ⟨R1, V1, eh, nf, na, no⟩ := R.laid (.dK []) hp
  exact hh G _ V1 R1 _ ⟨p, _, rfl, upd_same, ⟨[], rfl, Nat.zero_le _, rfl, RepVs.nil⟩, eh, nf, na, no, hp⟩
end

/-! ### dicts by keys -/
@[simp] def keyOf : EV → Option Key
  | .v (.int i) => some (.inl i)
  | .v (.str x) => some (.inr x)
  | _ => none
theorem key_rep {H0 : Hp} {G : Gh} {M : Mem} {s : L2.St} {H : Hp} {e : EV} {u : V} {q : Key} (r : RepE X.K E H0 G M s H e u) (h : keyOf e = some q) : u = kV q := by
  unfold keyOf at h
  split at h
  · cases h; exact repE_int r
  · cases h; exact repE_str r
  · cases h
@[simp] def dGet : List Key → List PV → Key → Option PV
  | q :: ks, x :: xs, k => if q = k then some x else dGet ks xs k
  | _, _, _ => none
def dPut : List Key → List PV → Key → PV → List Key × List PV
  | q :: ks, x :: xs, k, p => if q = k then (q :: ks, p :: xs) else let r := dPut ks xs k p; (q :: r.1, x :: r.2)
  | _, _, k, p => ([k], [p])
theorem dGet_rep {K : PySem.W.Frag} {G : Gh} {H : Hp} : ∀ {kvs : List (Key × V)} {ks : List Key} {xs : List PV} (k : Key), kvs.map (·.1) = ks → RepVs K G H xs (kvs.map (·.2)) →
    (match dGet ks xs k with | some p => ∃ v, valV kvs k = some v ∧ RepV K G H p v | none => valV kvs k = none)
  | [], ks, xs, k, e, r => by
    cases e
    have e2 : xs = [] := List.length_eq_zero_iff.mp r.length
    subst e2
    simp [dGet, valV]
  | (q, v) :: kvs, ks, xs, k, e, r => by
    cases e
    cases xs with
    | nil => have := r.length; simp at this
    | cons x xs =>
      obtain ⟨u, us, e2, r1, r2⟩ := RepVs.cons_iff.mp r
      cases e2
      simp only [List.map_cons, dGet]
      by_cases h : q = k
      · rw [if_pos h]
        exact ⟨v, valV_pos h, r1⟩
      · rw [if_neg h, valV_neg (p := (q, v)) h]
        exact dGet_rep k rfl r2

/-! ### subscripts -/
theorem ix_dict (hu : X.A.units + 1 < cLine) : IxR X (fun x y H Q => ∃ a v, x = .ref a ∧ DGet H a y (some v) ∧ Q v H) := by
  intro value slice pins s σ H x y v u Q I rx ry h hs
  obtain ⟨a, z, rfl, g, q⟩ := h
  cases rx
  exact tail_any (dict_typeIs I g) PySem.F.slot_dict_getitem.lookup (d_getItem hu I g ry fun w' s3 I3 rw' => ⟨z, H, I3, rw', q⟩) hs
theorem atI_rep {K : PySem.W.Frag} {G : Gh} {H : Hp} {xs : List PV} {us : List V} {i : Int} {p : PV} (r : RepVs K G H xs us) (h : atI xs i = some p) : ∃ v, atI us i = some v ∧ RepV K G H p v := by
  unfold atI at h ⊢
  rw [← r.length]
  cases e : ixN xs.length i with
  | none => rw [e] at h; cases h
  | some j =>
    rw [e] at h
    exact r.get h
@[simp] def opIx : Op2 := fun x y M => match y with
  | .v (.int i) => match x with
    | .v (.tup xs) => (atI xs i).map .v
    | .v (.str z) => if z.length ≤ sizeLine then (atI z.cps.toList i).map fun c => .v (.str ⟨#[c]⟩) else none
    | x => match asLst M x with
      | some xs => (atI xs i).map .v
      | none => match asDct M x with
        | some (ks, xs) => (dGet ks xs (.inl i)).map .v
        | none => none
  | .v (.str t) => match asDct M x with
    | some (ks, xs) => (dGet ks xs (.inr t)).map .v
    | none => none
  | _ => none
theorem rd_dget {H : Hp} {a : Addr} {kvs : List (Key × V)} {k : Key} (e : Rd H a (.dK kvs)) : DGet H a (kV k) (valV kvs k) := .inl ⟨kvs, k, e, rfl, rfl⟩
theorem opIx_ok : Op2Ok X (fun x y H Q => rIx X.K x y H Q ∨ ∃ a v, x = .ref a ∧ DGet H a y (some v) ∧ Q v H) opIx := by
  intro E s G M H H0 x y u v ev Q R d rx ry e q
  have fin : ∀ {p : PV} {w : V}, ev = .v p → RepV X.K G H p w → Q w H := fun {p w} e r => q G H w (Evo.refl _ _ _ _) R (by subst e; exact r)
  have dict : ∀ {ks xs k}, asDct M x = some (ks, xs) → (dGet ks xs k).map EV.v = some ev → v = kV k → rIx X.K u v H Q ∨ ∃ a w, u = .ref a ∧ DGet H a v (some w) ∧ Q w H := fun {ks xs k} e1 e2 ev' => by
    obtain ⟨a, kvs, rfl, hr, hk, rr, z⟩ := dct_of R rx e1
    have g := dGet_rep k hk rr
    cases e3 : dGet ks xs k with
    | none => rw [e3] at e2; cases e2
    | some p =>
      rw [e3] at e2 g
      cases e2
      obtain ⟨w, h1, h2⟩ := g
      exact .inr ⟨a, w, rfl, by rw [ev', ← h1]; exact rd_dget hr, fin rfl h2⟩
  simp only [opIx] at e
  split at e
  · rename_i i
    have ey := repE_int ry
    split at e
    · rename_i xs
      obtain ⟨a, us, rfl, ha, ra, za⟩ := repE_tup rx
      cases e3 : atI xs i with
      | none => rw [e3] at e; cases e
      | some p =>
        rw [e3] at e; cases e
        obtain ⟨w, h1, h2⟩ := atI_rep ra e3
        exact .inl (.inr (.inl ⟨a, us, i, w, rfl, ey, ha, h1, fin rfl h2⟩))
    · rename_i z
      split at e
      · rename_i hz
        cases e3 : atI z.cps.toList i with
        | none => rw [e3] at e; cases e
        | some c =>
          rw [e3] at e; cases e
          exact .inl (.inr (.inr ⟨z, i, c, repE_str rx, ey, hz, e3, fin rfl (by simp only [RepV])⟩))
      · cases e
    · split at e
      · rename_i xs e1
        obtain ⟨a, us, rfl, ha, ra, za⟩ := lst_of R rx e1
        cases e3 : atI xs i with
        | none => rw [e3] at e; cases e
        | some p =>
          rw [e3] at e; cases e
          obtain ⟨w, h1, h2⟩ := atI_rep ra e3
          exact .inl (.inl ⟨a, us, i, w, rfl, ey, ha, h1, fin rfl h2⟩)
      · split at e
        · rename_i e1
          exact dict e1 e ey
        · cases e
  · rename_i t
    split at e
    · rename_i e1
      exact dict e1 e (repE_str ry)
    · cases e
  · cases e
theorem fe_ix (A : Amb Z X W N sc fs k) {a b : Expr} {f g : Sm EV} {pos : Pos} (ha : FE X E W a f) (hb : FE X E W b g) (hs : PlainIx b := by exact fun _ _ => rfl) : FE X E W (.Subscript a b pos) (e2 opIx f g) :=
  ⟨PE.weak (pe_ix (ix_seq.or (ix_dict A.u1)) ha.pe hb.pe hs) fun _ _ _ h => tE_two opIx_ok h⟩

/-! ### slices -/
@[simp] def oNo : Sm (Option Int) := fun M => .ok none M
@[simp] def oSome (f : Sm EV) : Sm (Option Int) := fun M => (f M).bnd fun x M1 => match x with
  | .v (.int i) => .ok (some i) M1
  | _ => .bad
def tO (X : Cx) (E : Ent) (W : WX) (f : Sm (Option Int)) : TO := fun s H Q => ∃ G M, StRep X.K E G M s H ∧ OutP X E W s G M H (f M) fun _ _ H' b => Q b H'
structure FO (X : Cx) (E : Ent) (W : WX) (e : Option Expr) (f : Sm (Option Int)) : Prop where
  run : ∃ t, L2.PO X e t ∧ ∀ s H Q, tO X E W f s H Q → t s H Q
theorem fo_none : FO X E W none oNo := ⟨_, po_none, fun s H Q ⟨G, M, R, h⟩ => h.now R⟩
theorem fo_some {e : Expr} {f : Sm EV} (h : FE X E W e f) : FO X E W (some e) (oSome f) := by
  refine ⟨_, po_some h.pe, ?_⟩
  rintro s H Q ⟨G, M, R, h⟩
  refine tE_one R h fun G1 M1 H1 x u V1 R1 rx h1 => ?_
  split at h1
  · exact ⟨_, repE_int rx, OutP.now h1 R1⟩
  · exact False.elim h1
def cutP {α : Type} (xs : List α) (lo hi : Option Int) : List α := (xs.drop (HT.sIx xs.length 0 lo)).take (HT.sIx xs.length xs.length hi - HT.sIx xs.length 0 lo)
theorem cutP_rep {K : PySem.W.Frag} {G : Gh} {H : Hp} {xs : List PV} {us : List V} (r : RepVs K G H xs us) (lo hi : Option Int) : RepVs K G H (cutP xs lo hi) (cutV us lo hi) := by
  unfold cutP cutV
  rw [r.length]
  exact (r.drop _).take _
@[simp] def opSl (x : EV) (lo hi : Option Int) (M : Mem) : Option EV := match x with
  | .v (.tup xs) => some (.v (.tup (cutP xs lo hi)))
  | .v (.str z) => if z.length ≤ sizeLine then some (.v (.str (cutS z lo hi))) else none
  | x => match asLst M x with
    | some xs => some (.fr (.lst (cutP xs lo hi)))
    | none => none
@[simp] def eSl (f : Sm EV) (l h : Sm (Option Int)) : Sm EV := fun M => (f M).bnd fun x M1 => (l M1).bnd fun lo M2 => (h M2).bnd fun hi M3 => optR (opSl x lo hi M3) M3
theorem fe_slice {a : Expr} {lo hi : Option Expr} {f : Sm EV} {l h : Sm (Option Int)} {pos p2 : Pos} (ha : FE X E W a f) (hl : FO X E W lo l) (hh : FO X E W hi h) : FE X E W (.Subscript a (.Slice lo hi none p2) pos) (eSl f l h) := by
  obtain ⟨tl, pl, il⟩ := hl.run
  obtain ⟨th, ph, ih⟩ := hh.run
  refine ⟨PE.weak (pe_slice (sl_list.or (sl_tupA.or sl_str)) ha.pe pl ph) ?_⟩
  rintro s H Q ⟨G, M, R, h⟩
  refine tE_one R h fun G1 M1 H1 x u V1 R1 rx h1 => ?_
  refine il _ _ _ ⟨G1, M1, R1, h1.bnd.imp fun G2 M2 H2 lo V2 R2 h2 => ?_⟩
  refine ih _ _ _ ⟨G2, M2, R2, h2.bnd.imp fun G3 M3 H3 hi V3 R3 h3 => ?_⟩
  replace rx := (rx.evo V2).evo V3
  have V := (V1.trans V2).trans V3
  clear h1 h2
  cases e : opSl x lo hi M3 with
  | none => rw [e] at h3; exact False.elim h3
  | some ev =>
    rw [e] at h3
    simp only [opSl] at e
    split at e
    · rename_i xs
      cases e
      obtain ⟨a, us, rfl, ha, ra, za⟩ := repE_tup rx
      refine .inr (.inl ⟨a, us, rfl, ha, fun hw => ?_, fun hw p hp => ?_⟩)
      · refine OutP.now h3 R3 _ ?_
        have e2 : cutP xs lo hi = xs := by
          unfold cutP
          rw [ra.length, hw.1, hw.2, ← ra.length]
          simp
        rw [e2]
        exact rx
      · obtain ⟨V4, R4, r4⟩ := rep_newtup R3 (cutP_rep ra lo hi) (Nat.le_trans (cutV_length _ _ _) za) hp
        exact h3 _ _ V4 R4 _ r4
    · split at e
      · rename_i z hz
        cases e
        exact .inr (.inr ⟨z, repE_str rx, hz, OutP.now h3 R3 _ (show RepV X.K G3 H3 (.str (cutS z lo hi)) _ by simp only [RepV])⟩)
      · cases e
    · split at e
      · rename_i xs e1
        cases e
        obtain ⟨a, us, rfl, ha, ra, za⟩ := lst_of R3 rx e1
        refine .inl ⟨a, us, rfl, ha, fun p hp => ?_⟩
        obtain ⟨V4, R4, r4⟩ := rep_newlst (H0 := H) R3 V.dom (cutP_rep ra lo hi) (Nat.le_trans (cutV_length _ _ _) za) hp
        exact h3 _ _ V4 R4 _ r4
      · cases e
end
end HF

end
section
set_option Elab.async false
set_option linter.all false
set_option maxRecDepth 20000
set_option autoImplicit false
/-! HF6: statements, targets, loops, a def by its body, the call of a def. -/
namespace HF
open PySem PySem.Spec PyProof.Rows L2

/-- a statement's end -/
inductive SR where
  | nx (M : Mem)
  | ret (e : EV) (M : Mem)
  | brk (M : Mem)
  | cnt (M : Mem)
  | exn (c : Str) (M : Mem)
  | bad
abbrev Ss := Mem → SR
@[simp] def Res.st {α : Type} (x : Res α) (f : α → Mem → SR) : SR := match x with
  | .ok a M => f a M
  | .exn c M => .exn c M
  | .bad => .bad
@[simp] def SR.sq (x : SR) (f : Ss) : SR := match x with
  | .nx M => f M
  | .ret e M => .ret e M
  | .brk M => .brk M
  | .cnt M => .cnt M
  | .exn c M => .exn c M
  | .bad => .bad
section
variable (X : Cx) (E : Ent) (W : WX)
def SOut (D : Ends) (G : Gh) (H : Hp) (r : SR) : Prop := match r with
  | .nx M' => ∀ G' s' H', Ext G H G' H' → StRep X.K E G' M' s' H' → D.nx s' H'
  | .ret e M' => ∀ G' s' H' u, StRep X.K E G' M' s' H' → RepE X.K E E.H G' M' s' H' e u → D.rt u H'
  | .brk M' => ∀ G' s' H', Ext G H G' H' → StRep X.K E G' M' s' H' → D.bk s' H'
  | .cnt M' => ∀ G' s' H', Ext G H G' H' → StRep X.K E G' M' s' H' → D.ct s' H'
  | .exn c M' => ∀ G' s' H' C, StRep X.K E G' M' s' H' → X.mg c = some (.ref C) → W (.ref C) none s' H'
  | .bad => False
def tS (f : Ss) : TS := fun D s H => ∃ G M, StRep X.K E G M s H ∧ SOut X E W D G H (f M)
structure FS (st : Stmt) (f : Ss) : Prop where
  ps : PS X st (tS X E W f)
structure FSs (st : List Stmt) (f : Ss) : Prop where
  ps : PSs X st (tS X E W f)
end
section
variable {X : Cx} {E : Ent} {W : WX} {N : List Str} {sc : Scope} {fs : Str → Bool} {k : Nat} {Z : Wd}
theorem SOut.nxt {D : Ends} {M : Mem} {G : Gh} {H : Hp} (h : SOut X E W D G H (.nx M)) {s : L2.St} (R : StRep X.K E G M s H) : D.nx s H := h G s H (Ext.refl _ _) R
/-- from a later place -/
theorem SOut.late {D : Ends} {r : SR} {G G1 : Gh} {H H1 : Hp} (h : SOut X E W D G H r) (x : Ext G H G1 H1) : SOut X E W D G1 H1 r := by
  cases r with
  | nx M1 => exact fun G' s' H' x' R => h G' s' H' (x.trans x') R
  | ret e M1 => exact h
  | brk M1 => exact fun G' s' H' x' R => h G' s' H' (x.trans x') R
  | cnt M1 => exact fun G' s' H' x' R => h G' s' H' (x.trans x') R
  | exn c M1 => exact h
  | bad => exact h
/-- an expression's run within a statement -/
theorem OutP.st {α : Type} {D : Ends} {s : L2.St} {G : Gh} {M : Mem} {H : Hp} {r : Res α} {f : α → Mem → SR} (h : SOut X E W D G H (r.st f)) : OutP X E W s G M H r fun G1 M1 H1 a => SOut X E W D G1 H1 (f a M1) := by
  cases r with
  | ok a M1 => exact fun G' H' V R => SOut.late h V.ext
  | exn c M1 => exact fun G' H' C R m => h G' s H' C R m
  | bad => exact h
theorem tE_st {D : Ends} {f : Sm EV} {g : EV → Mem → SR} {s : L2.St} {G : Gh} {M : Mem} {H : Hp} {Q : V → Hp → Prop} (R : StRep X.K E G M s H) (h : SOut X E W D G H ((f M).st g))
    (i : ∀ G1 M1 H1 a u, Evo s G M H G1 M1 H1 → StRep X.K E G1 M1 s H1 → RepE X.K E H G1 M1 s H1 a u → SOut X E W D G1 H1 (g a M1) → Q u H1) : tE X E W f s H Q :=
  ⟨G, M, R, (OutP.st h).imp fun G1 M1 H1 a V1 R1 q u ru => i G1 M1 H1 a u V1 R1 ru q⟩
theorem tP_st {D : Ends} {f : Sm PV} {g : PV → Mem → SR} {s : L2.St} {G : Gh} {M : Mem} {H : Hp} {Q : V → Hp → Prop} (R : StRep X.K E G M s H) (h : SOut X E W D G H ((f M).st g))
    (i : ∀ G1 M1 H1 a u, Evo s G M H G1 M1 H1 → StRep X.K E G1 M1 s H1 → RepV X.K G1 H1 a u → SOut X E W D G1 H1 (g a M1) → Q u H1) : tP X E W f s H Q :=
  ⟨G, M, R, (OutP.st h).imp fun G1 M1 H1 a V1 R1 q u ru => i G1 M1 H1 a u V1 R1 ru q⟩
theorem tB_st {D : Ends} {f : Sm Bool} {g : Bool → Mem → SR} {s : L2.St} {G : Gh} {M : Mem} {H : Hp} {Q : Bool → Hp → Prop} (R : StRep X.K E G M s H) (h : SOut X E W D G H ((f M).st g))
    (i : ∀ G1 M1 H1 a, Evo s G M H G1 M1 H1 → StRep X.K E G1 M1 s H1 → SOut X E W D G1 H1 (g a M1) → Q a H1) : tB' X E W f s H Q :=
  ⟨G, M, R, (OutP.st h).imp fun G1 M1 H1 a V1 R1 q => i G1 M1 H1 a V1 R1 q⟩

/-! ### rows of statements -/
@[simp] def sNop : Ss := fun M => .nx M
@[simp] def sSeq (f g : Ss) : Ss := fun M => (f M).sq g
theorem fss_nil : FSs X E W [] sNop := by
  refine ⟨PSs.weak pss_nil ?_⟩
  rintro D s H ⟨G, M, R, h⟩
  exact h.nxt R
theorem SOut.sq {D : Ends} {r : SR} {g : Ss} {G : Gh} {H : Hp} (h : SOut X E W D G H (r.sq g)) : SOut X E W { D with nx := tS X E W g D } G H r := by
  cases r with
  | nx M1 => exact fun G' s' H' x R => ⟨G', M1, R, SOut.late h x⟩
  | ret e M1 => exact h
  | brk M1 => exact h
  | cnt M1 => exact h
  | exn c M1 => exact h
  | bad => exact h
theorem fss_cons {st : Stmt} {rest : List Stmt} {f g : Ss} (h : FS X E W st f) (h' : FSs X E W rest g) : FSs X E W (st :: rest) (sSeq f g) := by
  refine ⟨PSs.weak (pss_cons h.ps h'.ps) ?_⟩
  rintro D s H ⟨G, M, R, hh⟩
  exact ⟨G, M, R, hh.sq⟩
theorem fss_one {st : Stmt} {f : Ss} (h : FS X E W st f) : FSs X E W [st] f := ⟨pss_one h.ps⟩
/-- slots that nothing asks any more -/
@[simp] def forget (ws : List Nat) (M : Mem) : Mem := ⟨ws.foldl (fun r i => r.set i none) M.r, M.h⟩
theorem StRep.forget {K : PySem.W.Frag} {G : Gh} {M : Mem} {s : L2.St} {H : Hp} (R : StRep K E G M s H) (ws : List Nat) : StRep K E G (HF.forget ws M) s H := by
  obtain ⟨r, h⟩ := M
  show StRep K E G ⟨ws.foldl (fun r i => r.set i none) r, h⟩ s H
  induction ws generalizing r with
  | nil => exact R
  | cons w ws ih =>
    refine ih (r.set w none) ?_
    refine R.slots (by simp) fun i x e => ?_
    by_cases z : w = i
    · subst z
      by_cases lt : w < r.length
      · rw [List.getElem?_set_self lt] at e; cases e
      · rw [List.getElem?_eq_none (by simpa using lt)] at e; cases e
    · rw [List.getElem?_set_ne z] at e; exact .inl e
@[simp] def sFor (ws : List Nat) (f : Ss) : Ss := fun M => (f M).sq fun M1 => .nx (forget ws M1)
theorem fs_forget {st : Stmt} {f : Ss} (ws : List Nat) (h : FS X E W st f) : FS X E W st (sFor ws f) := by
  refine ⟨PS.weak h.ps ?_⟩
  rintro D s H ⟨G, M, R, hh⟩
  refine ⟨G, M, R, ?_⟩
  simp only [sFor] at hh
  generalize f M = q at hh
  cases q with
  | nx M1 => exact fun G' s' H' x R' => hh G' s' H' x (R'.forget ws)
  | ret e M1 => exact hh
  | brk M1 => exact hh
  | cnt M1 => exact hh
  | exn c M1 => exact hh
  | bad => exact hh

/-! ### stores -/
theorem StRep.setV {K : PySem.W.Frag} {G : Gh} {M : Mem} {s : L2.St} {H : Hp} (R : StRep K E G M s H) (i : Nat) {p : PV} {u : V} (r : RepV K G H p u) : StRep K E G ⟨M.r.set i (some (.v p)), M.h⟩ (s.set i (some u)) H := by
  have lk : ∀ (j : Nat) (x : LV), (M.r.set i (some (.v p)))[j]? = some (some x) → (j = i ∧ x = .v p ∧ (s.set i (some u))[j]? = some (some u)) ∨ (M.r[j]? = some (some x) ∧ (s.set i (some u))[j]? = s[j]?) := fun j x e => by
    by_cases z : i = j
    · subst z
      by_cases lt : i < M.r.length
      · rw [List.getElem?_set_self lt] at e; cases e
        exact .inl ⟨rfl, rfl, List.getElem?_set_self (by rw [← R.len]; exact lt)⟩
      · rw [List.getElem?_eq_none (by simpa using lt)] at e; cases e
    · rw [List.getElem?_set_ne z] at e
      exact .inr ⟨e, List.getElem?_set_ne z⟩
  refine ⟨R.post, R.hp, by simp [R.len], fun j q e => ?_, fun j o e => ?_, fun j l o o' a e e' h h' => ?_⟩
  · rcases lk j _ e with ⟨_, z, z'⟩ | ⟨z, z'⟩
    · cases z; exact ⟨u, z', r⟩
    · rw [z']; exact R.slot j q z
  · rcases lk j _ e with ⟨_, z, z'⟩ | ⟨z, z'⟩
    · cases z
    · rw [z']; exact R.own j o z
  · rcases lk j _ e with ⟨_, z, z'⟩ | ⟨z, z'⟩
    · cases z
    · rcases lk l _ e' with ⟨_, y, y'⟩ | ⟨y, y'⟩
      · cases y
      · rw [z'] at h; rw [y'] at h'; exact R.sep j l o o' a z y h h'
theorem StRep.setO {K : PySem.W.Frag} {G : Gh} {M : Mem} {s : L2.St} {H : Hp} (R : StRep K E G M s H) (i : Nat) {o : PO} {a : Addr} {w : HO} (h1 : H a = some w) (ro : RepO K G H o w) (n : E.H a = none) (nf : ¬ G.F a) (nl : a ∉ G.al) (no : ¬ OwnAt M.r s a) :
    StRep K E G ⟨M.r.set i (some (.own o)), M.h⟩ (s.set i (some (.ref a))) H := by
  have lk : ∀ (j : Nat) (x : LV), (M.r.set i (some (.own o)))[j]? = some (some x) → (j = i ∧ x = .own o ∧ (s.set i (some (V.ref a)))[j]? = some (some (V.ref a))) ∨ (j ≠ i ∧ M.r[j]? = some (some x) ∧ (s.set i (some (V.ref a)))[j]? = s[j]?) := fun j x e => by
    by_cases z : i = j
    · subst z
      by_cases lt : i < M.r.length
      · rw [List.getElem?_set_self lt] at e; cases e
        exact .inl ⟨rfl, rfl, List.getElem?_set_self (by rw [← R.len]; exact lt)⟩
      · rw [List.getElem?_eq_none (by simpa using lt)] at e; cases e
    · rw [List.getElem?_set_ne z] at e
      exact .inr ⟨fun y => z y.symm, e, List.getElem?_set_ne z⟩
  refine ⟨R.post, R.hp, by simp [R.len], fun j q e => ?_, fun j o2 e => ?_, fun j l o2 o' b e e' h h' => ?_⟩
  · rcases lk j _ e with ⟨_, z, z'⟩ | ⟨_, z, z'⟩
    · cases z
    · rw [z']; exact R.slot j q z
  · rcases lk j _ e with ⟨_, z, z'⟩ | ⟨_, z, z'⟩
    · cases z; exact ⟨a, w, z', h1, ro, n, nf, nl⟩
    · rw [z']; exact R.own j o2 z
  · rcases lk j _ e with ⟨zi, z, z'⟩ | ⟨zi, z, z'⟩
    · rcases lk l _ e' with ⟨yi, y, y'⟩ | ⟨yi, y, y'⟩
      · rw [zi, yi]
      · rw [z'] at h; cases h
        rw [y'] at h'
        exact absurd ⟨l, o', y, h'⟩ no
    · rcases lk l _ e' with ⟨yi, y, y'⟩ | ⟨yi, y, y'⟩
      · rw [y'] at h'; cases h'
        rw [z'] at h
        exact absurd ⟨j, o2, z, h⟩ no
      · rw [z'] at h; rw [y'] at h'; exact R.sep j l o2 o' b z y h h'
def locB (sc : Scope) (fs : Str → Bool) (x : Str) : Bool := match sc.names.lookup x with
  | some .local => true
  | some .cell => fs x
  | _ => false
theorem locB_loc {x : Str} (h : locB sc fs x = true) : Loc sc x := by
  unfold locB at h
  split at h
  · rename_i e; exact .inl e
  · rename_i e; exact .inr e
  · cases h
theorem locB_fn (A : Amb Z X W N sc fs k) {x : Str} (h : locB sc fs x = true) : X.fn x = true ∨ X.env.scope.names.lookup x = some .local := by
  unfold locB at h
  split at h
  · rename_i e; exact .inr (by rw [A.hs]; exact e)
  · exact .inl (by rw [A.fn]; exact h)
  · cases h
/-- name = value -/
@[simp] def sSet (i : Nat) (f : Sm PV) : Ss := fun M => (f M).st fun p M1 => .nx ⟨M1.r.set i (some (.v p)), M1.h⟩
/-- name = a new thing, to be this name's alone -/
@[simp] def sOwn (i : Nat) (f : Sm EV) : Ss := fun M => (f M).st fun e M1 => match e with
  | .fr o => .nx ⟨M1.r.set i (some (.own o)), M1.h⟩
  | .v p => .nx ⟨M1.r.set i (some (.v p)), M1.h⟩
  | .sl _ => .bad
theorem set_tP {i : Nat} {f : Sm PV} {D : Ends} {s : L2.St} {H : Hp} (h : tS X E W (sSet i f) D s H) : tAsg (tP X E W f) (gName i) D s H := by
  obtain ⟨G, M, R, h⟩ := h
  exact tP_st R h fun G1 M1 H1 p u V1 R1 rp q => q.nxt (R1.setV i rp)
theorem set_tE {i : Nat} {f : Sm EV} {D : Ends} {s : L2.St} {H : Hp} (h : tS X E W (sOwn i f) D s H) : tAsg (tE X E W f) (gName i) D s H := by
  obtain ⟨G, M, R, h⟩ := h
  refine tE_st R h fun G1 M1 H1 e u V1 R1 re q => ?_
  cases e with
  | v p => exact SOut.nxt q (R1.setV i re)
  | fr o =>
    obtain ⟨a, w, rfl, h1, ro, n, nf, nl, no, _⟩ := re
    exact SOut.nxt q (R1.setO i h1 ro n nf nl no)
  | sl j => exact False.elim q
section
variable {e : Expr} {f : Sm EV} {pos pos' : Pos} {x : Str} {i : Nat}
theorem fs_set (A : Amb Z X W N sc fs k) {f : Sm PV} (hN : N[i]? = some x) (hl : locB sc fs x = true) (he : FP X E W e f) (hs : swapsWith e (some (.Name x pos')) pos.line X.env = pure false := by rfl) : FS X E W (.Assign [.Name x pos'] e pos) (sSet i f) :=
  ⟨PS.weak (ps_set (by rw [A.hN]; exact A.nd) (by rw [A.hN]; exact hN) (by rw [A.hs]; exact locB_loc hl) he.pe hs (locB_fn A hl)) fun _ _ _ h => set_tP h⟩
theorem fs_own (A : Amb Z X W N sc fs k) (hN : N[i]? = some x) (hl : locB sc fs x = true) (he : FE X E W e f) (hs : swapsWith e (some (.Name x pos')) pos.line X.env = pure false := by rfl) : FS X E W (.Assign [.Name x pos'] e pos) (sOwn i f) :=
  ⟨PS.weak (ps_set (by rw [A.hN]; exact A.nd) (by rw [A.hN]; exact hN) (by rw [A.hs]; exact locB_loc hl) he.pe hs (locB_fn A hl)) fun _ _ _ h => set_tE h⟩
end

/-! ### targets: a name, a tuple of names -/
inductive Pat where
  | nm (i : Nat)
  | tp (is : List Nat)
def gNames : List Nat → TGs
  | [] => gNil
  | i :: is => gCons (gName i) (gNames is)
def gPat (K : PySem.W.Frag) : Pat → TG
  | .nm i => gName i
  | .tp is => gTup K is.length (gNames is)
def Pat.slots : Pat → List Nat
  | .nm i => [i]
  | .tp is => is
structure FG (X : Cx) (tg : Expr) (pt : Pat) : Prop where
  pg : PG X tg (gPat X.K pt)
structure FGs (X : Cx) (tgs : List Expr) (is : List Nat) : Prop where
  pg : PGs X tgs (gNames is)
  len : tgs.length = is.length
@[simp] def setAll : List Nat → List PV → List (Option LV) → Option (List (Option LV))
  | [], [], r => some r
  | i :: is, p :: ps, r => setAll is ps (r.set i (some (.v p)))
  | _, _, _ => none
@[simp] def asgPat : Pat → PV → List (Option LV) → Option (List (Option LV))
  | .nm i, p, r => some (r.set i (some (.v p)))
  | .tp is, .tup ps, r => setAll is ps r
  | _, _, _ => none
section
variable {e : Expr} {es : List Expr} {pos : Pos} {x : Str} {i : Nat} {is : List Nat}
theorem fg_name (A : Amb Z X W N sc fs k) (hN : N[i]? = some x) (hl : locB sc fs x = true) : FG X (.Name x pos) (.nm i) := ⟨pg_name (by rw [A.hN]; exact A.nd) (by rw [A.hN]; exact hN) (by rw [A.hs]; exact locB_loc hl) (locB_fn A hl)⟩
theorem fgs_nil : FGs X [] [] := ⟨pgs_nil, rfl⟩
theorem fgs_cons (h : FG X e (.nm i)) (h' : FGs X es is) (hs : (assignEach (e :: es) X.env).map (·.2) = assign e X.env :: (assignEach es X.env).map (·.2) := by rfl) : FGs X (e :: es) (i :: is) := ⟨pgs_cons h.pg h'.pg hs, by simp [h'.len]⟩
theorem fg_tup (A : Amb Z X W N sc fs k) {kk} (h : FGs X es is) (hn : (assignEach es X.env).length = is.length := by rfl) (hst : (assignEach es X.env).findIdx? (·.1) = none := by rfl) : FG X (.Tuple es kk pos) (.tp is) := ⟨pg_tup A.calm h.pg hn hst⟩
end
theorem gNames_ok {G : Gh} {H : Hp} {K : PySem.W.Frag} : ∀ {is : List Nat} {ps : List PV} {us : List V} {M : Mem} {s : L2.St} {r' : List (Option LV)}, StRep K E G M s H → RepVs K G H ps us → setAll is ps M.r = some r' →
    ∃ s', StRep K E G ⟨r', M.h⟩ s' H ∧ (∀ Q : L2.St → Hp → Prop, Q s' H → gNames is us s H Q) ∧ ∀ j, j ∉ is → s'[j]? = s[j]?
  | [], ps, us, M, s, r', R, r, e => by
    cases ps with
    | cons p ps => cases e
    | nil =>
      cases e
      rw [RepVs.nil_iff.mp r]
      exact ⟨s, R, fun Q q => ⟨rfl, q⟩, fun j _ => rfl⟩
  | i :: is, ps, us, M, s, r', R, r, e => by
    cases ps with
    | nil => cases e
    | cons p ps =>
      obtain ⟨u, ws, rfl, rp, rs⟩ := RepVs.cons_iff.mp r
      obtain ⟨s', R', h1, h2⟩ := gNames_ok (R.setV i rp) rs e
      exact ⟨s', R', fun Q q => ⟨u, ws, rfl, h1 Q q⟩, fun j hj => by
        simp only [List.mem_cons, not_or] at hj
        rw [h2 j hj.2, List.getElem?_set_ne (fun z => hj.1 z.symm)]⟩
theorem setAll_len : ∀ {is : List Nat} {ps : List PV} {r r' : List (Option LV)}, setAll is ps r = some r' → is.length = ps.length
  | [], [], _, _, _ => rfl
  | i :: is, p :: ps, r, r', e => by simp [setAll_len (is := is) (ps := ps) e]
  | [], p :: ps, _, _, e => by cases e
  | i :: is, [], _, _, e => by cases e
theorem gPat_ok {G : Gh} {H : Hp} {K : PySem.W.Frag} {pt : Pat} {p : PV} {u : V} {M : Mem} {s : L2.St} {r' : List (Option LV)} (R : StRep K E G M s H) (r : RepV K G H p u) (e : asgPat pt p M.r = some r') :
    ∃ s', StRep K E G ⟨r', M.h⟩ s' H ∧ (∀ Q : L2.St → Hp → Prop, Q s' H → gPat K pt u s H Q) ∧ ∀ j, j ∉ pt.slots → s'[j]? = s[j]? := by
  cases pt with
  | nm i =>
    cases e
    exact ⟨_, R.setV i r, fun Q q => q, fun j hj => List.getElem?_set_ne (fun z => hj (by simp [Pat.slots, z]))⟩
  | tp is =>
    cases p with
    | tup ps =>
      obtain ⟨a, us, rfl, ht, rs, z⟩ := tup_of r
      obtain ⟨s', R', h1, h2⟩ := gNames_ok R rs e
      exact ⟨s', R', fun Q q => ⟨a, us, rfl, ht, by rw [← rs.length, ← setAll_len e], h1 Q q⟩, h2⟩
    | _ => cases e
/-- a, b = value -/
@[simp] def sPat (pt : Pat) (f : Sm PV) : Ss := fun M => (f M).st fun p M1 => match asgPat pt p M1.r with
  | some r' => .nx ⟨r', M1.h⟩
  | none => .bad
theorem fs_pat {tg e : Expr} {pt : Pat} {f : Sm PV} {pos : Pos} (hg : FG X tg pt) (he : FP X E W e f) (hs : swapsWithSole [tg] e pos.line X.env = pure false := by rfl) (hw : swappedStores [tg] e X.env = pure none := by rfl)
    (h1 : (assignEach [tg] X.env).map (·.2) = [assign tg X.env] := by rfl) : FS X E W (.Assign [tg] e pos) (sPat pt f) := by
  refine ⟨PS.weak (ps_asg he.pe hg.pg hs hw h1) ?_⟩
  rintro D s H ⟨G, M, R, h⟩
  refine tP_st R h fun G1 M1 H1 p u V1 R1 rp q => ?_
  cases e1 : asgPat pt p M1.r with
  | none => simp only [e1] at q; exact False.elim q
  | some r' =>
    simp only [e1] at q
    obtain ⟨s', R', h1, _⟩ := gPat_ok R1 rp e1
    exact h1 _ (q.nxt R')

/-! ### return, if, expressions, pass -/
@[simp] def sRet (f : Sm EV) : Ss := fun M => (f M).st fun e M1 => match e with
  | .sl i => match slotAt M1 i with
    | some (.own o) => .ret (.fr o) ⟨M1.r.set i none, M1.h⟩
    | _ => .bad
  | e => .ret e M1
theorem sl_free {K : PySem.W.Frag} {G : Gh} {M : Mem} {s : L2.St} {H : Hp} {i : Nat} {o : PO} (R : StRep K E G M s H) (ei : M.r[i]? = some (some (.own o))) :
    StRep K E G ⟨M.r.set i none, M.h⟩ s H ∧ ∀ a, s[i]? = some (some (.ref a)) → ¬ OwnAt (M.r.set i none) s a := by
  have lt : i < M.r.length := (List.getElem?_eq_some_iff.mp ei).1
  refine ⟨R.slots (by simp) fun j x ej => ?_, fun a e ⟨j, o2, e1, e2⟩ => ?_⟩
  · by_cases zj : i = j
    · subst zj; rw [List.getElem?_set_self lt] at ej; cases ej
    · rw [List.getElem?_set_ne zj] at ej; exact .inl ej
  · by_cases zj : i = j
    · subst zj; rw [List.getElem?_set_self lt] at e1; cases e1
    · rw [List.getElem?_set_ne zj] at e1
      exact zj (R.sep i j o o2 a ei e1 e e2)
section
variable {e : Expr} {f : Sm EV} {pos : Pos}
theorem fs_ret (he : FE X E W e f) : FS X E W (.Return (some e) pos) (sRet f) := by
  refine ⟨PS.weak (ps_ret he.pe) ?_⟩
  rintro D s H ⟨G, M, R, h⟩
  refine tE_st R h fun G1 M1 H1 x u V1 R1 rx q => ?_
  cases x with
  | v p => exact q G1 s H1 u R1 rx
  | fr o =>
    have hd : ∀ a, H a = none → E.H a = none := fun a z => R.post.dom a z
    exact q G1 s H1 u R1 (rx.old hd)
  | sl i =>
    simp only at q
    split at q
    · rename_i o eo
      have ei := slotAt_some eo
      obtain ⟨a, w, e1, h1, ro, n, nf, nl⟩ := R1.own i o ei
      have rx : s[i]? = some (some u) := rx
      rw [e1] at rx; cases rx
      obtain ⟨Rf, no⟩ := sl_free R1 ei
      exact q G1 s H1 _ Rf ⟨a, w, rfl, h1, ro, n, nf, nl, no a e1, n⟩
    · exact False.elim q
theorem fs_retN : FS X E W (.Return none pos) (fun M => .ret (.v .non) M) := by
  refine ⟨PS.weak ps_retN ?_⟩
  rintro D s H ⟨G, M, R, h⟩
  exact h G s H .non R (show RepV X.K G H .non _ by simp only [RepV])
@[simp] def sIf (c : Sm Bool) (f g : Ss) : Ss := fun M => (c M).st fun b M1 => if b = true then f M1 else g M1
theorem fs_if {c : Expr} {a b : List Stmt} {t : Sm Bool} {f g : Ss} (hc : FT X E W c t) (ha : FSs X E W a f) (hb : FSs X E W b g) : FS X E W (.If c a b pos) (sIf t f g) := by
  refine ⟨PS.weak (ps_if hc.pe ha.ps hb.ps) ?_⟩
  rintro D s H ⟨G, M, R, h⟩
  refine tB_st R h fun G1 M1 H1 b V1 R1 q => ?_
  cases b with
  | true =>
    rw [if_pos rfl] at q
    exact iteT ⟨G1, M1, R1, q⟩
  | false =>
    rw [if_neg Bool.false_ne_true] at q
    exact iteF ⟨G1, M1, R1, q⟩
@[simp] def sExp (f : Sm EV) : Ss := fun M => (f M).st fun _ M1 => .nx M1
theorem fs_exp (he : FE X E W e f) (hs : swapsWith e none pos.line X.env = pure false := by rfl) : FS X E W (.Expr e pos) (sExp f) := by
  refine ⟨PS.weak (ps_expr he.pe hs) ?_⟩
  rintro D s H ⟨G, M, R, h⟩
  exact tE_st R h fun G1 M1 H1 x u V1 R1 rx q => q.nxt R1
theorem fs_pass : FS X E W (.Pass pos) sNop := ⟨PS.weak ps_pass fun _ _ _ ⟨_, _, R, h⟩ => h.nxt R⟩
theorem fs_doc {x j pos'} : FS X E W (.Expr (.Constant (.str x) j pos) pos') sNop := ⟨PS.weak ps_doc fun _ _ _ ⟨_, _, R, h⟩ => h.nxt R⟩
theorem fs_brk : FS X E W (.Break pos) (fun M => .brk M) := ⟨PS.weak ps_break fun _ _ _ ⟨_, _, R, h⟩ => h _ _ _ (Ext.refl _ _) R⟩
theorem fs_cnt : FS X E W (.Continue pos) (fun M => .cnt M) := ⟨PS.weak ps_continue fun _ _ _ ⟨_, _, R, h⟩ => h _ _ _ (Ext.refl _ _) R⟩
end

/-! ### while -/
def whileL (c : Sm Bool) (b : Ss) (ws : List Nat) : Nat → Ss
  | 0, _ => .bad
  | n + 1, M => (c M).st fun t M1 => if t = true then (match b M1 with
      | .nx M2 => whileL c b ws n (forget ws M2)
      | .cnt M2 => whileL c b ws n (forget ws M2)
      | .brk M2 => .nx (forget ws M2)
      | r => r) else .nx M1
@[simp] def sWhile (c : Sm Bool) (b : Ss) (ws : List Nat) (n : Nat) : Ss := fun M => whileL c b ws n (forget ws M)
theorem fs_while (A : Amb Z X W N sc fs k) {c : Expr} {body : List Stmt} {t : Sm Bool} {b : Ss} {pos : Pos} (ws : List Nat) (n : Nat) (hc : FT X E W c t) (hb : FSs X E W body b) : FS X E W (.While c body [] pos) (sWhile t b ws n) := by
  refine ⟨PS.weak (ps_while A.po hc.pe hb.ps) ?_⟩
  rintro D s H ⟨G, M, R, h⟩
  refine ⟨fun m s H => ∃ G M, StRep X.K E G M s H ∧ SOut X E W D G H (whileL t b ws m M), ⟨n, G, _, R.forget ws, h⟩, ?_⟩
  rintro m s H ⟨G, M, R, h⟩
  cases m with
  | zero => exact False.elim h
  | succ m =>
    unfold whileL at h
    refine tB_st R h fun G1 M1 H1 t V1 R1 q => ?_
    cases t with
    | false =>
      rw [if_neg Bool.false_ne_true] at q
      exact iteF (q.nxt R1)
    | true =>
      rw [if_pos rfl] at q
      refine iteT ⟨fun s H => ∃ G M, StRep X.K E G M s H ∧ SOut X E W D G H (whileL t b ws m M), fun s' H' h' => ⟨m, Nat.lt_succ_self m, h'⟩, G1, M1, R1, ?_⟩
      generalize b M1 = r at q
      cases r with
      | nx M2 => exact fun G' s' H' x R' => ⟨G', _, R'.forget ws, SOut.late q x⟩
      | cnt M2 => exact fun G' s' H' x R' => ⟨G', _, R'.forget ws, SOut.late q x⟩
      | brk M2 => exact fun G' s' H' x R' => q G' s' H' x (R'.forget ws)
      | ret e M2 => exact q
      | exn c M2 => exact q
      | bad => exact q
end
end HF

end
section
set_option Elab.async false
set_option linter.all false
set_option maxRecDepth 20000
set_option autoImplicit false
/-! HF7: what is walked; for; list comprehensions. -/
namespace HF
open PySem PySem.Spec PyProof.Rows L2

/-- that what is walked stands as it stood -/
@[simp] def Chk (e : EV) (xs : List PV) (M : Mem) : Prop := match e with
  | .sl i => slotAt M i = some (.own (.lst xs))
  | .v (.ref r) => cellAt M r = some (.lst xs)
  | _ => True
def SameAt (e : EV) (s0 s : L2.St) : Prop := match e with
  | .sl i => s[i]? = s0[i]?
  | _ => True
structure Wk (K : PySem.W.Frag) (E : Ent) (e : EV) (xs : List PV) (s0 : L2.St) (J : It) (G0 : Gh) (H0 : Hp) : Prop where
  go : ∀ (i : Nat) G M s H, StRep K E G M s H → Ext G0 H0 G H → Chk e xs M → SameAt e s0 s → i < xs.length → J.go i H
  yld : ∀ (i : Nat) G M s H x H' p, StRep K E G M s H → Ext G0 H0 G H → Chk e xs M → SameAt e s0 s → xs[i]? = some p → J.yld i H x H' → ∃ G', Evo s G M H G' M H' ∧ StRep K E G' M s H' ∧ RepV K G' H' p x
  stop : ∀ (i : Nat) G M s H, StRep K E G M s H → Ext G0 H0 G H → Chk e xs M → SameAt e s0 s → xs.length ≤ i → J.stop i H
  sz : xs.length ≤ sizeLine
abbrev Src := EV × List PV
section
variable (X : Cx) (E : Ent) (W : WX)
def tI (f : Sm Src) : TI := fun s H R => ∃ G M, StRep X.K E G M s H ∧ OutP X E W s G M H (f M) fun G1 _ H1 sr => ∀ J, Wk X.K E sr.1 sr.2 s J G1 H1 → R J H1
structure FI (tg iter : Expr) (f : Sm Src) : Prop where
  pi : PI X tg iter (tI X E W f)
end
section
variable {X : Cx} {E : Ent} {W : WX} {N : List Str} {sc : Scope} {fs : Str → Bool} {k : Nat} {Z : Wd}
theorem PI.weak {tg iter : Expr} {t t' : TI} (h : PI X tg iter t) (i : ∀ s H R, t' s H R → t s H R) : PI X tg iter t' := ⟨fun pins s σ H R I q => h.run pins s σ H R I (i _ _ _ q)⟩
theorem PI.or {tg iter : Expr} {t t' : TI} (h : PI X tg iter t) (h' : PI X tg iter t') : PI X tg iter (fun s H R => t s H R ∨ t' s H R) :=
  ⟨fun pins s σ H R I q => q.elim (h.run pins s σ H R I) (h'.run pins s σ H R I)⟩

/-! ### sources -/
/-- a list that is seen in every later state -/
theorem wk_list {K : PySem.W.Frag} {e : EV} {xs : List PV} {s0 : L2.St} {G0 : Gh} {H0 : Hp} {a : Addr} (hz : xs.length ≤ sizeLine) (v : ∀ G M s H, StRep K E G M s H → Ext G0 H0 G H → Chk e xs M → SameAt e s0 s → ∃ us, SqL K H a us ∧ RepVs K G H xs us) : Wk K E e xs s0 (Itl K a) G0 H0 where
  go := fun i G M s H R x c sa lt => by
    obtain ⟨us, q, r⟩ := v G M s H R x c sa
    have lt' : i < us.length := by rw [← r.length]; exact lt
    exact ⟨us, us[i], q, List.getElem?_eq_getElem lt'⟩
  yld := fun i G M s H y H' p R x c sa e1 e2 => by
    obtain ⟨us, q, r⟩ := v G M s H R x c sa
    obtain ⟨rfl, h2⟩ := e2
    obtain ⟨w, h3, h4⟩ := r.get e1
    have := h2 us q
    rw [h3] at this; cases this
    exact ⟨G, Evo.refl _ _ _ _, R, h4⟩
  stop := fun i G M s H R x c sa le => by
    obtain ⟨us, q, r⟩ := v G M s H R x c sa
    exact ⟨us, q, by rw [← r.length]; exact le⟩
  sz := hz
theorem wk_tup {K : PySem.W.Frag} {e : EV} {xs : List PV} {s0 : L2.St} {G0 : Gh} {H0 : Hp} {a : Addr} (hz : xs.length ≤ sizeLine) (v : ∀ G M s H, StRep K E G M s H → Ext G0 H0 G H → ∃ us, SqT K H a us ∧ RepVs K G H xs us) : Wk K E e xs s0 (Itt K a) G0 H0 where
  go := fun i G M s H R x c sa lt => by
    obtain ⟨us, q, r⟩ := v G M s H R x
    have lt' : i < us.length := by rw [← r.length]; exact lt
    exact ⟨us, us[i], q, List.getElem?_eq_getElem lt'⟩
  yld := fun i G M s H y H' p R x c sa e1 e2 => by
    obtain ⟨us, q, r⟩ := v G M s H R x
    obtain ⟨rfl, h2⟩ := e2
    obtain ⟨w, h3, h4⟩ := r.get e1
    have := h2 us q
    rw [h3] at this; cases this
    exact ⟨G, Evo.refl _ _ _ _, R, h4⟩
  stop := fun i G M s H R x c sa le => by
    obtain ⟨us, q, r⟩ := v G M s H R x
    exact ⟨us, q, by rw [← r.length]; exact le⟩
  sz := hz
@[simp] def signsOf (z : Str) : List PV := z.cps.toList.map fun c => .str ⟨#[c]⟩
theorem wk_str {K : PySem.W.Frag} {e : EV} {z : Str} {s0 : L2.St} {G0 : Gh} {H0 : Hp} (hz : z.length ≤ sizeLine) : Wk K E e (signsOf z) s0 (Its z) G0 H0 where
  go := fun i G M s H R x c sa lt => by
    show i < z.cps.size
    simpa using lt
  yld := fun i G M s H y H' p R x c sa e1 e2 => by
    obtain ⟨rfl, c, h1, rfl⟩ := e2
    simp only [signsOf, List.getElem?_map, Array.getElem?_toList] at e1
    rw [h1] at e1; cases e1
    exact ⟨G, Evo.refl _ _ _ _, R, by simp only [RepV]⟩
  stop := fun i G M s H R x c sa le => by
    show z.cps.size ≤ i
    simpa using le
  sz := by simpa [Str.length] using hz
/-- of an expression: a list, a tuple, a text; a slot's own list stays the slot's -/
@[simp] def srcOf (f : Sm EV) : Sm Src := fun M => (f M).bnd fun e M1 => match e with
  | .v (.tup xs) => .ok (.v .non, xs) M1
  | .v (.str z) => if z.length ≤ sizeLine then .ok (.v .non, signsOf z) M1 else .bad
  | .v (.lst xs) => .ok (.v .non, xs) M1
  | .v (.rol xs) => .ok (.v .non, xs) M1
  | .fr (.lst xs) => .ok (.v .non, xs) M1
  | .v (.ref r) => match cellAt M1 r with
    | some (.lst xs) => .ok (.v (.ref r), xs) M1
    | _ => .bad
  | .sl i => match slotAt M1 i with
    | some (.own (.lst xs)) => .ok (.sl i, xs) M1
    | _ => .bad
  | _ => .bad
theorem fi_of {tg e : Expr} {f : Sm EV} (h : FE X E W e f) : FI X E W tg e (srcOf f) := by
  refine ⟨PI.weak (PI.or (pi_list h.pe) (PI.or (pi_tup h.pe) (pi_str h.pe))) ?_⟩
  rintro s H Q ⟨G, M, R, hh⟩
  cases hf : f M with
  | exn c M1 =>
    refine .inl ⟨G, M, R, ?_⟩
    rw [hf]
    simp only [srcOf, hf, Res.bnd] at hh
    exact hh
  | bad => simp only [srcOf, hf, Res.bnd] at hh; exact hh.elim
  | ok e M1 =>
    simp only [srcOf, hf, Res.bnd] at hh
    have lst : ∀ {e' : EV} {xs : List PV}, OutP X E W s G M H (.ok (e', xs) M1) (fun G1 _ H1 sr => ∀ J, Wk X.K E sr.1 sr.2 s J G1 H1 → Q J H1) →
        (∀ G1 H1 u, Evo s G M H G1 M1 H1 → StRep X.K E G1 M1 s H1 → RepE X.K E H G1 M1 s H1 e u → ∃ a us G2, u = .ref a ∧ SqL X.K H1 a us ∧ Evo s G M H G2 M1 H1 ∧ StRep X.K E G2 M1 s H1 ∧ Wk X.K E e' xs s (Itl X.K a) G2 H1) → iList X.K (tE X E W f) s H Q := fun {e' xs} h1 h2 => by
      refine ⟨G, M, R, ?_⟩
      rw [hf]
      intro G1 H1 V1 R1 u ru
      obtain ⟨a, us, G2, rfl, h3, V2, R2, w⟩ := h2 G1 H1 u V1 R1 ru
      exact ⟨a, rfl, ⟨us, h3⟩, h1 G2 H1 V2 R2 _ w⟩
    split at hh
    · rename_i xs
      refine .inr (.inl ⟨G, M, R, ?_⟩)
      rw [hf]
      intro G1 H1 V1 R1 u ru
      have ru : RepV X.K G1 H1 (.tup xs) u := ru
      simp only [RepV] at ru
      obtain ⟨a, us, rfl, ft, rr⟩ := ru
      exact ⟨a, rfl, ⟨us, ft.sq⟩, hh G1 H1 V1 R1 _ (wk_tup (by rw [rr.length]; exact ft.1) fun G' M' s' H' R' x => ⟨us, (ft.mono x).sq, RepVs.mono x _ _ rr⟩)⟩
    · rename_i z
      split at hh
      · rename_i hz
        refine .inr (.inr ⟨G, M, R, ?_⟩)
        rw [hf]
        intro G1 H1 V1 R1 u ru
        exact ⟨z, repE_str ru, hh G1 H1 V1 R1 _ (wk_str hz)⟩
      · exact hh.elim
    · rename_i xs
      refine .inl (lst hh fun G1 H1 u V1 R1 ru => ?_)
      have ru : RepV X.K G1 H1 (.lst xs) u := ru
      simp only [RepV] at ru
      obtain ⟨a, us, rfl, ⟨z, f1, f2⟩, rr⟩ := ru
      exact ⟨a, us, G1, rfl, .inl f2, V1, R1, wk_list (by rw [rr.length]; exact z) fun G' M' s' H' R' x _ _ => ⟨us, .inl (x.rd a _ f1 trivial f2), RepVs.mono x _ _ rr⟩⟩
    · rename_i xs
      refine .inl (lst hh fun G1 H1 u V1 R1 ru => ?_)
      have ru : RepV X.K G1 H1 (.rol xs) u := ru
      simp only [RepV] at ru
      obtain ⟨a, us, rfl, fl, rr⟩ := ru
      exact ⟨a, us, G1, rfl, fl.sq, V1, R1, wk_list (by rw [rr.length]; exact fl.1) fun G' M' s' H' R' x _ _ => ⟨us, (fl.mono x).sq, RepVs.mono x _ _ rr⟩⟩
    · rename_i xs
      refine .inl (lst hh fun G1 H1 u V1 R1 ru => ?_)
      obtain ⟨a, w, rfl, h1, ⟨us, rfl, z, rr⟩, n, nf, nl, no, ho⟩ := ru
      have x0 := G1.ext_fz H1 a
      exact ⟨a, us, G1.fz a, rfl, SqL.of h1, V1.frozen (.inl ho), R1.frozen h1 n nl no, wk_list (by rw [rr.length]; exact z) fun G' M' s' H' R' x _ _ => ⟨us, .inl (x.rd a _ (.inr rfl) trivial (.inl h1)), RepVs.mono (x0.trans x) _ _ rr⟩⟩
    · rename_i r
      split at hh
      · rename_i xs ec
        refine .inl (lst hh fun G1 H1 u V1 R1 ru => ?_)
        have ru : RepV X.K G1 H1 (.ref r) u := ru
        simp only [RepV] at ru
        obtain ⟨a, rfl, ha⟩ := ru
        obtain ⟨w, h1, us, rfl, z, rr⟩ := R1.cell ec ha
        exact ⟨a, us, G1, rfl, SqL.of h1, V1, R1, wk_list (by rw [rr.length]; exact z) fun G' M' s' H' R' x c _ => by
          obtain ⟨w, h1, us, rfl, z, rr⟩ := R'.cell (show cellAt M' r = some (.lst xs) from c) (x.al r a ha)
          exact ⟨us, SqL.of h1, rr⟩⟩
      · exact hh.elim
    · rename_i i
      split at hh
      · rename_i xs ec
        refine .inl (lst hh fun G1 H1 u V1 R1 ru => ?_)
        obtain ⟨a, w, e1, h1, ⟨us, rfl, z, rr⟩, _⟩ := R1.own i _ (slotAt_some ec)
        have ru : s[i]? = some (some u) := ru
        rw [e1] at ru; cases ru
        exact ⟨a, us, G1, rfl, SqL.of h1, V1, R1, wk_list (by rw [rr.length]; exact z) fun G' M' s' H' R' x c sa => by
          obtain ⟨b, w, e2, h1, ⟨us, rfl, z, rr⟩, _⟩ := R'.own i _ (slotAt_some (show slotAt M' i = some (.own (.lst xs)) from c))
          have sa : s'[i]? = s[i]? := sa
          rw [sa, e1] at e2; cases e2
          exact ⟨us, SqL.of h1, rr⟩⟩
      · exact hh.elim
    · exact hh.elim
/-! ranges -/
theorem wk_range {K : PySem.W.Frag} {s0 : L2.St} {lo : Int} {n : Nat} {G0 : Gh} {H0 : Hp} (hz : n ≤ sizeLine) : Wk K E (.v .non) ((List.range n).map fun (i : Nat) => .int (lo + (i : Int))) s0 (Itr lo n) G0 H0 where
  go := fun i G M s H R x _ sa lt => by
    show i < n
    simpa using lt
  yld := fun i G M s H y H' p R x _ sa e1 e2 => by
    obtain ⟨rfl, rfl⟩ := e2
    have lt : i < n := by
      have := (List.getElem?_eq_some_iff.mp e1).1
      simpa using this
    rw [List.getElem?_map, List.getElem?_range lt] at e1
    cases e1
    exact ⟨G, Evo.refl _ _ _ _, R, by simp only [RepV]⟩
  stop := fun i G M s H R x _ sa le => by
    show n ≤ i
    simpa using le
  sz := by simpa using hz
theorem wk_rangeC {K : PySem.W.Frag} {s0 : L2.St} {lo c : Int} {n : Nat} {G0 : Gh} {H0 : Hp} (hz : n ≤ sizeLine) : Wk K E (.v .non) ((List.range n).map fun (i : Nat) => .int (lo + (i : Int) * c)) s0 (Itc lo c n) G0 H0 where
  go := fun i G M s H R x _ sa lt => by
    show i < n
    simpa using lt
  yld := fun i G M s H y H' p R x _ sa e1 e2 => by
    obtain ⟨rfl, rfl⟩ := e2
    have lt : i < n := by
      have := (List.getElem?_eq_some_iff.mp e1).1
      simpa using this
    rw [List.getElem?_map, List.getElem?_range lt] at e1
    cases e1
    exact ⟨G, Evo.refl _ _ _ _, R, by simp only [RepV]⟩
  stop := fun i G M s H R x _ sa le => by
    show n ≤ i
    simpa using le
  sz := by simpa using hz
@[simp] def rgOk (i : Int) : Bool := decide (i.natAbs < 2 ^ 62)
theorem rgOk_of {i : Int} (h : rgOk i = true) : -(2 ^ 62) ≤ i ∧ i < 2 ^ 62 := by
  simp only [rgOk, decide_eq_true_eq] at h
  omega
@[simp] def srcR1 (f : Sm (List PV)) : Sm Src := fun M => (f M).bnd fun ps M1 => match ps with
  | [.int j] => if (rgOk j && decide (j.toNat ≤ sizeLine)) = true then .ok (.v .non, (List.range j.toNat).map fun (i : Nat) => .int (0 + (i : Int))) M1 else .bad
  | _ => .bad
@[simp] def srcR2 (f : Sm (List PV)) : Sm Src := fun M => (f M).bnd fun ps M1 => match ps with
  | [.int i, .int j] => if (rgOk i && rgOk j && decide ((j - i).toNat ≤ sizeLine)) = true then .ok (.v .non, (List.range (j - i).toNat).map fun (m : Nat) => .int (i + (m : Int))) M1 else .bad
  | _ => .bad
/-- how many turns a range upward has -/
def rgLen (i j c : Int) : Nat := (Builtin.Range.rangeSize i j c).toNat
def rg3Ok (i j c : Int) : Bool := rgOk i && rgOk j && decide (c ≠ 0) && decide (c.natAbs < 1073741824) && Builtin.Range.small i j c && decide (0 ≤ Builtin.Range.rangeSize i j c) && decide (rgLen i j c ≤ sizeLine)
@[simp] def srcR3 (f : Sm (List PV)) : Sm Src := fun M => (f M).bnd fun ps M1 => match ps with
  | [.int i, .int j, .int c] => if rg3Ok i j c = true then .ok (.v .non, (List.range (rgLen i j c)).map fun (m : Nat) => .int (i + (m : Int) * c)) M1 else .bad
  | _ => .bad
theorem ints_rep {K : PySem.W.Frag} {G : Gh} {H : Hp} {i : Int} {v : V} : RepV K G H (.int i) v ↔ v = .int i := by simp only [RepV]
section
variable {a b c : Expr} {tg : Expr} {p pos : Pos} {f : Sm (List PV)}
theorem fi_range1 (A : Amb Z X W N sc fs k) (hm : X.mg ("range" : Str) = none) (ha : FL X E W [a] f) (hg : sc.names.lookup ("range" : Str) = some .globalImplicit := by rfl) (hs : starEach [a] X.env = [(false, eval a X.env)] := by rfl) : FI X E W tg (.Call (.Name "range" p) [a] [] pos) (srcR1 f) := by
  refine ⟨PI.weak (pi_range1 (A.gl hg) hm ha.fa.pe hs) ?_⟩
  rintro s H Q ⟨G, M, R, h⟩
  refine ⟨G, M, R, h.bnd.imp fun G1 M1 H1 ps V1 R1 q us rr => ?_⟩
  split at q
  · rename_i j
    obtain ⟨u, ws, rfl, r1, r2⟩ := RepVs.cons_iff.mp rr
    rw [RepVs.nil_iff.mp r2, ints_rep.mp r1]
    split at q
    · rename_i z
      rw [Bool.and_eq_true] at z
      have zr := rgOk_of z.1
      refine ⟨j, rfl, zr.1, zr.2, ?_⟩
      exact q.now R1 _ (wk_range (of_decide_eq_true z.2))
    · exact False.elim q
  · exact False.elim q
theorem fi_range2 (A : Amb Z X W N sc fs k) (hm : X.mg ("range" : Str) = none) (ha : FL X E W [a, b] f) (hg : sc.names.lookup ("range" : Str) = some .globalImplicit := by rfl) (hs : starEach [a, b] X.env = [(false, eval a X.env), (false, eval b X.env)] := by rfl) (hs2 : starEach [b] X.env = [(false, eval b X.env)] := by rfl) :
    FI X E W tg (.Call (.Name "range" p) [a, b] [] pos) (srcR2 f) := by
  refine ⟨PI.weak (pi_range2 (A.gl hg) hm ha.fa.pe hs hs2) ?_⟩
  rintro s H Q ⟨G, M, R, h⟩
  refine ⟨G, M, R, h.bnd.imp fun G1 M1 H1 ps V1 R1 q us rr => ?_⟩
  split at q
  · rename_i i j
    obtain ⟨u, ws, rfl, r1, r2⟩ := RepVs.cons_iff.mp rr
    obtain ⟨u2, ws, rfl, r2, r3⟩ := RepVs.cons_iff.mp r2
    rw [RepVs.nil_iff.mp r3, ints_rep.mp r1, ints_rep.mp r2]
    split at q
    · rename_i z
      rw [Bool.and_eq_true, Bool.and_eq_true] at z
      have z1 := rgOk_of z.1.1
      have z2 := rgOk_of z.1.2
      exact ⟨i, j, rfl, ⟨z1.1, z1.2, z2.1, z2.2⟩, q.now R1 _ (wk_range (of_decide_eq_true z.2))⟩
    · exact False.elim q
  · exact False.elim q
theorem fi_range3 (A : Amb Z X W N sc fs k) (hm : X.mg ("range" : Str) = none) (ha : FL X E W [a, b, c] f) (hg : sc.names.lookup ("range" : Str) = some .globalImplicit := by rfl)
    (hs : starEach [a, b, c] X.env = (false, eval a X.env) :: starEach [b, c] X.env := by rfl) (hpl : (backTo pos (starEach [b, c] X.env)).any (fun x => x.1) = false := by rfl) :
    FI X E W tg (.Call (.Name "range" p) [a, b, c] [] pos) (srcR3 f) := by
  refine ⟨PI.weak (pi_range3 (A.gl hg) hm ha.fa.pe hs hpl) ?_⟩
  rintro s H Q ⟨G, M, R, h⟩
  refine ⟨G, M, R, h.bnd.imp fun G1 M1 H1 ps V1 R1 q us rr => ?_⟩
  split at q
  · rename_i i j c
    obtain ⟨u, ws, rfl, r1, r2⟩ := RepVs.cons_iff.mp rr
    obtain ⟨u2, ws, rfl, q2, r3⟩ := RepVs.cons_iff.mp r2
    obtain ⟨u3, ws, rfl, q3, r4⟩ := RepVs.cons_iff.mp r3
    rw [RepVs.nil_iff.mp r4, ints_rep.mp r1, ints_rep.mp q2, ints_rep.mp q3]
    split at q
    · rename_i z
      simp only [rg3Ok, Bool.and_eq_true, decide_eq_true_eq] at z
      obtain ⟨⟨⟨⟨⟨⟨z1, z2⟩, z3⟩, z4⟩, z5⟩, z6⟩, z7⟩ := z
      exact ⟨i, j, c, rgLen i j c, rfl, ⟨z3, z4, z5, by simp only [rgLen]; omega⟩, q.now R1 _ (wk_rangeC z7)⟩
    · exact False.elim q
  · exact False.elim q
end

/-! ### for -/
/-- what a turn comes to -/
inductive TR where
  | go (M : Mem)
  | out (r : SR)
@[simp] def forTurn (pt : Pat) (b : Ss) (ws : List Nat) (x : PV) (M : Mem) : TR := match asgPat pt x M.r with
  | none => .out .bad
  | some r' => match b ⟨r', M.h⟩ with
    | .nx M2 => .go (forget ws M2)
    | .cnt M2 => .go (forget ws M2)
    | .brk M2 => .out (.nx (forget ws M2))
    | z => .out z
open Classical in
noncomputable def forL (e : EV) (all : List PV) (pt : Pat) (b : Ss) (ws : List Nat) : List PV → Ss
  | [], M => if Chk e all M then .nx M else .bad
  | x :: r, M => if Chk e all M then (match forTurn pt b ws x M with
      | .go M' => forL e all pt b ws r M'
      | .out z => z) else .bad
@[simp] noncomputable def sForIn (f : Sm Src) (pt : Pat) (b : Ss) (ws : List Nat) : Ss := fun M => (f M).st fun sr M1 => forL sr.1 sr.2 pt b ws sr.2 (forget ws M1)
@[simp] def notSl (e : EV) : Bool := match e with
  | .sl _ => false
  | _ => true
theorem SameAt.of_not {e : EV} {s0 s : L2.St} (h : notSl e = true) : SameAt e s0 s := by
  cases e <;> first | trivial | cases h
/-- the source of a for: a slot's own list is frozen -/
@[simp] def srcP (f : Sm PV) : Sm Src := srcOf fun M => (f M).bnd fun p M1 => .ok (.v p) M1
theorem FP.fe {e : Expr} {f : Sm PV} (h : FP X E W e f) : FE X E W e (fun M => (f M).bnd fun p M1 => .ok (.v p) M1) := by
  refine ⟨PE.weak h.pe ?_⟩
  rintro s H Q ⟨G, M, R, hh⟩
  exact tP_one R hh fun G1 M1 H1 p u V1 R1 rp q => OutP.now q R1 u rp
structure NoSlot (f : Sm Src) : Prop where
  out : ∀ M a M', f M = .ok a M' → notSl a.1 = true
theorem srcP_ns {f : Sm PV} : NoSlot (srcP f) := by
  refine ⟨fun M a M' h => ?_⟩
  simp only [srcP, srcOf] at h
  cases hf : f M with
  | exn c M1 => rw [hf] at h; cases h
  | bad => rw [hf] at h; cases h
  | ok p M1 =>
    rw [hf] at h
    simp only [Res.bnd] at h
    cases p <;> simp only at h <;> first | (cases h; rfl) | (split at h <;> first | (cases h; rfl) | cases h) | cases h
theorem srcR1_ns {f : Sm (List PV)} : NoSlot (srcR1 f) := by
  refine ⟨fun M a M' h => ?_⟩
  simp only [srcR1] at h
  cases hf : f M with
  | exn c M1 => rw [hf] at h; cases h
  | bad => rw [hf] at h; cases h
  | ok p M1 =>
    rw [hf] at h
    simp only [Res.bnd] at h
    split at h
    · split at h
      · cases h; rfl
      · cases h
    · cases h
theorem srcR2_ns {f : Sm (List PV)} : NoSlot (srcR2 f) := by
  refine ⟨fun M a M' h => ?_⟩
  simp only [srcR2] at h
  cases hf : f M with
  | exn c M1 => rw [hf] at h; cases h
  | bad => rw [hf] at h; cases h
  | ok p M1 =>
    rw [hf] at h
    simp only [Res.bnd] at h
    split at h
    · split at h
      · cases h; rfl
      · cases h
    · cases h
theorem srcR3_ns {f : Sm (List PV)} : NoSlot (srcR3 f) := by
  refine ⟨fun M a M' h => ?_⟩
  simp only [srcR3] at h
  cases hf : f M with
  | exn c M1 => rw [hf] at h; cases h
  | bad => rw [hf] at h; cases h
  | ok p M1 =>
    rw [hf] at h
    simp only [Res.bnd] at h
    split at h
    · split at h
      · cases h; rfl
      · cases h
    · cases h
theorem fs_for (A : Amb Z X W N sc fs k) {tg iter : Expr} {body : List Stmt} {f : Sm Src} {pt : Pat} {b : Ss} {pos : Pos} (ws : List Nat) (hi : FI X E W tg iter f) (hn : NoSlot f) (hg : FG X tg pt) (hb : FSs X E W body b)
    (hs : ∀ x, foldedSetIterable iter X.env x = pure x := by intro _; rfl) : FS X E W (.For tg iter body [] pos) (sForIn f pt b ws) := by
  refine ⟨PS.weak (ps_for A.po A.calm hi.pi hg.pg hb.ps hs) ?_⟩
  rintro D s H ⟨G, M, R, h⟩
  refine ⟨G, M, R, ?_⟩
  cases hf : f M with
  | exn c M1 => simp only [sForIn, hf, Res.st] at h; exact fun G' H' C R' m => h G' s H' C R' m
  | bad => simp only [sForIn, hf, Res.st] at h; exact h
  | ok sr M1 =>
    obtain ⟨e, all⟩ := sr
    have ns := hn.out M _ M1 hf
    simp only [sForIn, hf, Res.st] at h
    intro G1 H1 V1 R1 J w
    have h1 : SOut X E W D G1 H1 (forL e all pt b ws all (forget ws M1)) := SOut.late h V1.ext
    refine ⟨fun i m s' H' => m = all.length - i ∧ i ≤ all.length ∧ ∃ G' M', StRep X.K E G' M' s' H' ∧ Ext G1 H1 G' H' ∧ SOut X E W D G' H' (forL e all pt b ws (all.drop i) M'), ⟨all.length, by simp, Nat.zero_le _, G1, _, R1.forget ws, Ext.refl _ _, by simpa using h1⟩, ?_⟩
    rintro i m s2 H2 ⟨rfl, hi, G2, M2, R2, x2, h2⟩
    by_cases lt : i < all.length
    · rw [List.drop_eq_getElem_cons lt] at h2
      unfold forL at h2
      split at h2
      · rename_i c
        refine .inr ⟨w.go i G2 M2 s2 H2 R2 x2 c (SameAt.of_not ns) lt, fun s' H' => ∃ G' M', StRep X.K E G' M' s' H' ∧ Ext G1 H1 G' H' ∧ SOut X E W D G' H' (forL e all pt b ws (all.drop (i + 1)) M'), fun s' H' h' => ⟨all.length - (i + 1), by omega, rfl, lt, h'⟩, fun y H' hy => ?_⟩
        obtain ⟨G3, V3, R3, r3⟩ := w.yld i G2 M2 s2 H2 y H' all[i] R2 x2 c (SameAt.of_not ns) (List.getElem?_eq_getElem lt) hy
        have h3 := SOut.late h2 V3.ext
        cases er : asgPat pt all[i] M2.r with
        | none => simp only [forTurn, er] at h3; exact h3.elim
        | some r' =>
          simp only [forTurn, er] at h3
          obtain ⟨s', R5, k1, _⟩ := gPat_ok R3 r3 er
          refine k1 _ ⟨G3, _, R5, ?_⟩
          have x3 := x2.trans V3.ext
          generalize b ⟨r', M2.h⟩ = q at h3 ⊢
          have key : ∀ {M5}, SOut X E W D G3 H' (forL e all pt b ws (all.drop (i + 1)) (forget ws M5)) → ∀ G' s' H2', Ext G3 H' G' H2' → StRep X.K E G' M5 s' H2' → ∃ G' M', StRep X.K E G' M' s' H2' ∧ Ext G1 H1 G' H2' ∧ SOut X E W D G' H2' (forL e all pt b ws (all.drop (i + 1)) M') :=
            fun hh G' s' H2' x R' => ⟨G', _, R'.forget ws, x3.trans x, SOut.late hh x⟩
          cases q with
          | nx M5 => exact fun G' s' H2' x R' => key h3 G' s' H2' x R'
          | cnt M5 => exact fun G' s' H2' x R' => key h3 G' s' H2' x R'
          | brk M5 => exact fun G' s' H2' x R' => h3 G' s' H2' x (R'.forget ws)
          | ret e M5 => exact h3
          | exn c M5 => exact h3
          | bad => exact h3
      · exact h2.elim
    · have e1 : i = all.length := by omega
      subst e1
      rw [List.drop_length] at h2
      unfold forL at h2
      split at h2
      · rename_i c
        exact .inl ⟨w.stop _ G2 M2 s2 H2 R2 x2 c (SameAt.of_not ns) (Nat.le_refl _), SOut.nxt h2 R2⟩
      · exact h2.elim

/-! ### list comprehensions -/
def noX {α : Type} : Res α → Res α
  | .ok a M => .ok a M
  | _ => .bad
/-- a turn of a comprehension: what is added, the state behind it -/
@[simp] def lcStep (pt : Pat) (vs : List Nat) (t : Sm Bool) (f : Sm PV) (x : PV) (M : Mem) : Option (Option PV × Mem) := match asgPat pt x M.r with
  | none => none
  | some r' => match t ⟨r', M.h⟩ with
    | .ok true M1 => (match f M1 with
      | .ok p M2 => some (some p, forget vs M2)
      | _ => none)
    | .ok false M1 => some (none, forget vs M1)
    | _ => none
open Classical in
noncomputable def lcL (e : EV) (all : List PV) (pt : Pat) (vs : List Nat) (t : Sm Bool) (f : Sm PV) : List PV → List PV → Mem → Option (List PV × Mem)
  | [], acc, M => if Chk e all M then some (acc, M) else none
  | x :: r, acc, M => if Chk e all M then (match lcStep pt vs t f x M with
      | some (some p, M') => lcL e all pt vs t f r (acc ++ [p]) M'
      | some (none, M') => lcL e all pt vs t f r acc M'
      | none => none) else none
@[simp] noncomputable def eLc (s : Sm Src) (pt : Pat) (vs : List Nat) (t : Sm Bool) (f : Sm PV) : Sm EV := fun M => (s M).bnd fun sr M1 => match lcL sr.1 sr.2 pt vs t f sr.2 [] (forget vs M1) with
  | some (ps, M2) => .ok (.fr (.lst ps)) M2
  | none => .bad
@[simp] def bYes : Sm Bool := fun M => .ok true M
/-- the block's tests -/
structure FTs (X : Cx) (E : Ent) (W : WX) (ifs : List Expr) (f : Sm Bool) : Prop where
  pe : PTs X ifs (tB' X E W f)
theorem fts_nil : FTs X E W [] bYes := by
  refine ⟨⟨fun pins s σ H Q I h => pts_nil.run pins s σ H Q I ?_⟩⟩
  obtain ⟨G, M, R, h⟩ := h
  exact h.now R
theorem fts_one {c : Expr} {f : Sm Bool} (h : FT X E W c f) : FTs X E W [c] f := ⟨pts_one h.pe⟩
abbrev W0 : WX := fun _ _ _ _ => False
/-- the block's place -/
theorem Amb.blk (A : Amb Z X W N sc fs k) (s : Shared) (H : Hp) (scope : Scope) (C : Addr) (cl : List (Str × Addr)) (fp : List Addr) :
    Amb Z (X.blk s H scope (compEnvC scope cl C X.env) fp) W0 N (relS scope sc) (fun x => scope.names.lookup x == some .cell) k := by
  refine ⟨A.hN, rfl, A.same, ?_, A.nd, A.calm, A.room, takes0, PassesOwn.never⟩
  show relabel scope X.env = _
  rw [← A.hs]
  rfl
theorem OwnAt.agree {r : List (Option LV)} {s s' : L2.St} {a : Addr} (h : ∀ (i : Nat) (x : LV), r[i]? = some (some x) → s'[i]? = s[i]?) : OwnAt r s' a ↔ OwnAt r s a :=
  ⟨fun ⟨i, o, e, e'⟩ => ⟨i, o, e, by rw [← h i _ e]; exact e'⟩, fun ⟨i, o, e, e'⟩ => ⟨i, o, e, by rw [h i _ e]; exact e'⟩⟩
theorem StRep.agree {K : PySem.W.Frag} {G : Gh} {M : Mem} {s s' : L2.St} {H : Hp} (R : StRep K E G M s H) (hl : s'.length = s.length) (h : ∀ (i : Nat) (x : LV), M.r[i]? = some (some x) → s'[i]? = s[i]?) : StRep K E G M s' H := by
  refine ⟨R.post, R.hp, by rw [hl]; exact R.len, fun i p e => ?_, fun i o e => ?_, fun i j o o' a e e' h1 h2 => ?_⟩
  · rw [h i _ e]; exact R.slot i p e
  · rw [h i _ e]; exact R.own i o e
  · rw [h i _ e] at h1; rw [h j _ e'] at h2; exact R.sep i j o o' a e e' h1 h2
theorem forget_get {vs : List Nat} {r : List (Option LV)} : ∀ {i : Nat} {x : LV}, (vs.foldl (fun r i => r.set i none) r)[i]? = some (some x) → r[i]? = some (some x) ∧ i ∉ vs := by
  induction vs generalizing r with
  | nil => intro i x h; exact ⟨h, by simp⟩
  | cons v vs ih =>
    intro i x h
    obtain ⟨h1, h2⟩ := ih h
    by_cases z : v = i
    · subst z
      by_cases lt : v < r.length
      · rw [List.getElem?_set_self lt] at h1; cases h1
      · rw [List.getElem?_eq_none (by simpa using lt)] at h1; cases h1
    · rw [List.getElem?_set_ne z] at h1
      exact ⟨h1, by simp only [List.mem_cons, not_or]; exact ⟨fun e => z e.symm, h2⟩⟩
theorem forget_agree {vs : List Nat} {M : Mem} {s : L2.St} : ∀ (i : Nat) (x : LV), (forget vs M).r[i]? = some (some x) → (wipe s vs)[i]? = s[i]? := fun i x h => wipe_out (forget_get h).2
/-- an upd at an address that nothing holds -/
theorem StRep.upd {K : PySem.W.Frag} {G : Gh} {M : Mem} {s : L2.St} {H : Hp} (R : StRep K E G M s H) {p : Addr} (o : HO) (eh : E.H p = none) (nf : ¬ G.F p) (na : p ∉ G.al) (no : ¬ OwnAt M.r s p) : StRep K E G M s (L2.upd H p o) := by
  have x := ext_upd (H := H) (o := o) nf
  refine ⟨post_upd R.post nf (.inr eh), hprep_upd R.hp nf na, R.len, fun i q e => ?_, fun i ob e => ?_, R.sep⟩
  · obtain ⟨u, h1, h2⟩ := R.slot i q e
    exact ⟨u, h1, RepV.mono x _ _ h2⟩
  · obtain ⟨a, u, h1, h2, h3, h4⟩ := R.own i ob e
    exact ⟨a, u, h1, by rw [L2.upd_ne (fun (z : a = p) => no ⟨i, ob, e, by rw [← z]; exact h1⟩)]; exact h2, h3.mono x, h4⟩
theorem Evo.upd {s : L2.St} {G0 G : Gh} {M0 M : Mem} {H0 H : Hp} (V : Evo s G0 M0 H0 G M H) {p : Addr} (o : HO) (h : H0 p = none) (nf : ¬ G.F p) : Evo s G0 M0 H0 G M (L2.upd H p o) := by
  refine ⟨V.ext.trans (ext_upd nf), fun a u e n f ow => ?_, V.own, fun a e => ?_⟩
  · obtain ⟨h1, h2, h3⟩ := V.keep a u e n f ow
    exact ⟨by rw [L2.upd_ne (ne_of_none e h)]; exact h1, h2, h3⟩
  · by_cases z : a = p
    · subst z; rw [upd_same] at e; cases e
    · rw [L2.upd_ne z] at e; exact V.dom a e
theorem wipe_agree {s s' : L2.St} {vs : List Nat} (hl : s'.length = s.length) (h : ∀ j, j ∉ vs → s'[j]? = s[j]?) : wipe s' vs = wipe s vs := by
  apply List.ext_getElem?
  intro j
  by_cases hj : j ∈ vs
  · have none_at : ∀ (t : L2.St) (vs : List Nat), j ∈ vs → (wipe t vs)[j]? = if j < t.length then some none else none := fun t vs => by
      induction vs with
      | nil => intro h; simp at h
      | cons v vs ih =>
        intro h
        unfold wipe
        by_cases z : v = j
        · subst z
          rw [List.getElem?_set]
          simp [wipe_length]
        · rw [List.getElem?_set_ne z]
          exact ih ((List.mem_cons.mp h).resolve_left fun e => z e.symm)
    rw [none_at _ _ hj, none_at _ _ hj, hl]
  · rw [wipe_out hj, wipe_out hj, h j hj]
theorem wipe_wipe (s : L2.St) (vs : List Nat) : wipe (wipe s vs) vs = wipe s vs := wipe_agree (wipe_length _ _) fun j hj => wipe_out hj
theorem setAll_own : ∀ {is : List Nat} {ps : List PV} {r r' : List (Option LV)} {j : Nat} {o : PO}, setAll is ps r = some r' → r'[j]? = some (some (.own o)) → r[j]? = some (some (.own o))
  | [], [], r, r', j, o, e, h => by cases e; exact h
  | i :: is, p :: ps, r, r', j, o, e, h => by
    have h1 := setAll_own (is := is) (ps := ps) e h
    by_cases z : i = j
    · subst z
      by_cases lt : i < r.length
      · rw [List.getElem?_set_self lt] at h1; cases h1
      · rw [List.getElem?_eq_none (by simpa using lt)] at h1; cases h1
    · rw [List.getElem?_set_ne z] at h1; exact h1
  | [], p :: ps, _, _, _, _, e, _ => by cases e
  | i :: is, [], _, _, _, _, e, _ => by cases e
theorem asgPat_own {pt : Pat} {p : PV} {r r' : List (Option LV)} {j : Nat} {o : PO} (e : asgPat pt p r = some r') (h : r'[j]? = some (some (.own o))) : r[j]? = some (some (.own o)) := by
  cases pt with
  | nm i => exact setAll_own (is := [i]) (ps := [p]) (by simpa using e) h
  | tp is =>
    cases p with
    | tup ps => exact setAll_own e h
    | _ => cases e
theorem setAll_size : ∀ {is : List Nat} {ps : List PV} {r r' : List (Option LV)}, setAll is ps r = some r' → r'.length = r.length
  | [], [], r, r', e => by cases e; rfl
  | i :: is, p :: ps, r, r', e => by rw [setAll_size (is := is) (ps := ps) e, List.length_set]
  | [], p :: ps, _, _, e => by cases e
  | i :: is, [], _, _, e => by cases e
theorem asgPat_len {pt : Pat} {p : PV} {r r' : List (Option LV)} (e : asgPat pt p r = some r') : r'.length = r.length := by
  cases pt with
  | nm i => exact setAll_size (is := [i]) (ps := [p]) (by simpa using e)
  | tp is =>
    cases p with
    | tup ps => exact setAll_size e
    | _ => cases e
/-- the reading of a comprehension, from its meaning -/
theorem lc_ok {vs : List Nat} {f : Sm Src} {pt : Pat} {t : Sm Bool} {el : Sm PV} {s : L2.St} {H : Hp} {Q : VK} (X' : Cx) (hK : X'.K = X.K) (hp : ∀ i ∈ pt.slots, i ∈ vs) (h : tE X E W (eLc f pt vs t el) s H Q) :
    tLc (tI X E W f) (gPat X.K pt) (tB' X' E W0 t) (tP X' E W0 el) vs s H Q := by
  obtain ⟨G, M, R, h⟩ := h
  refine ⟨G, M, R, ?_⟩
  cases hf : f M with
  | exn c M1 => simp only [eLc, hf, Res.bnd] at h; exact h
  | bad => simp only [eLc, hf, Res.bnd] at h; exact h
  | ok sr M1 =>
    obtain ⟨e, all⟩ := sr
    simp only [eLc, hf, Res.bnd] at h
    intro G1 H1 V1 R1 J w D hD
    cases hl : lcL e all pt vs t el all [] (forget vs M1) with
    | none => rw [hl] at h; exact h.elim
    | some z =>
      obtain ⟨ps, Mf⟩ := z
      rw [hl] at h
      have sz : all.length ≤ all.length := Nat.le_refl _
      -- the block's start
      have Rw : StRep X.K E G1 (forget vs M1) (wipe s vs) H1 := (R1.forget vs).agree (wipe_length _ _) forget_agree
      obtain ⟨R2, _, eD, nfD, naD, noD⟩ := Rw.laid (.lst []) hD
      have V2 : Evo (wipe s vs) G1 (forget vs M1) H1 G1 (forget vs M1) (L2.upd H1 D (.lst [])) := (Evo.refl _ _ _ _).upd _ hD nfD
      refine ⟨fun i m H' => m = all.length - i ∧ i ≤ all.length ∧ ∃ G' M' acc us, StRep X.K E G' M' (wipe s vs) H' ∧ Evo (wipe s vs) G1 (forget vs M1) H1 G' M' H' ∧ H' D = some (.lst us) ∧ RepVs X.K G' H' acc us ∧ us.length ≤ i ∧
          E.H D = none ∧ ¬ G'.F D ∧ D ∉ G'.al ∧ ¬ OwnAt M'.r (wipe s vs) D ∧ (∀ j x, M'.r[j]? = some (some x) → j ∉ vs) ∧ lcL e all pt vs t el (all.drop i) acc M' = some (ps, Mf),
        ⟨all.length, by simp, Nat.zero_le _, G1, forget vs M1, [], [], R2, V2, upd_same, RepVs.nil, Nat.le_refl _, eD, nfD, naD, noD, fun j x e => (forget_get e).2, by simpa using hl⟩, ?_⟩
      rintro i m H3 ⟨rfl, hi, G3, M3, acc, us, R3, V3, hD3, racc, hus, eD3, nf3, na3, no3, out3, hl3⟩
      by_cases lt : i < all.length
      · rw [List.drop_eq_getElem_cons lt] at hl3
        unfold lcL at hl3
        split at hl3
        · rename_i c
          have sa : SameAt e s (wipe s vs) := by
            cases e with
            | sl j =>
              have c : slotAt M3 j = some (.own (.lst all)) := c
              exact wipe_out (out3 j _ (slotAt_some c))
            | v p => trivial
            | fr o => trivial
          have x3 : Ext G1 H1 G3 H3 := V3.ext
          refine .inr ⟨w.go i G3 M3 _ H3 R3 x3 c sa lt, fun H' => ∃ G' M' acc us, StRep X.K E G' M' (wipe s vs) H' ∧ Evo (wipe s vs) G1 (forget vs M1) H1 G' M' H' ∧ H' D = some (.lst us) ∧ RepVs X.K G' H' acc us ∧ us.length ≤ i + 1 ∧
            E.H D = none ∧ ¬ G'.F D ∧ D ∉ G'.al ∧ ¬ OwnAt M'.r (wipe s vs) D ∧ (∀ j x, M'.r[j]? = some (some x) → j ∉ vs) ∧ lcL e all pt vs t el (all.drop (i + 1)) acc M' = some (ps, Mf),
            fun H' h' => ⟨all.length - (i + 1), by omega, rfl, lt, h'⟩, fun y H' hy => ?_⟩
          obtain ⟨G4, V4, R4, r4⟩ := w.yld i G3 M3 _ H3 y H' all[i] R3 x3 c sa (List.getElem?_eq_getElem lt) hy
          cases er : asgPat pt all[i] M3.r with
          | none => simp only [lcStep, er] at hl3; cases hl3
          | some r' =>
            simp only [lcStep, er] at hl3
            obtain ⟨s', R5, k1, k2⟩ := gPat_ok R4 r4 er
            have ls : s'.length = (wipe s vs).length := by
              rw [← R5.len, ← R3.len]
              exact asgPat_len er
            have kk : ∀ j, j ∉ vs → s'[j]? = (wipe s vs)[j]? := fun j hj => k2 j fun z => hj (hp j z)
            have ws : wipe s' vs = wipe s vs := by rw [wipe_agree ls kk, wipe_wipe]
            refine k1 _ ⟨by first | exact ws | rw [ws, wipe_wipe], ?_⟩
            -- D is nobody's
            obtain ⟨hD4, na4, nf4⟩ := V4.keep D _ hD3 na3 nf3 no3
            have no4 : ¬ OwnAt M3.r (wipe s vs) D := no3
            have no5 : ¬ OwnAt r' s' D := fun ⟨j, o, e1, e2⟩ => by
              have z := R5.own j o e1
              obtain ⟨a, u, z1, z2, z3, z4, z5, z6⟩ := z
              have := asgPat_own er e1
              exact no3 ⟨j, o, this, by rw [← kk j (out3 j _ this)]; exact e2⟩
            have R5' : StRep X'.K E G4 ⟨r', M3.h⟩ s' H' := by rw [hK]; exact R5
            -- behind the test, and the element, back to the block's slots
            have back : ∀ {G6 M6 H6}, Evo s' G4 ⟨r', M3.h⟩ H' G6 M6 H6 → StRep X.K E G6 M6 s' H6 →
                StRep X.K E G6 (forget vs M6) (wipe s vs) H6 ∧ Evo (wipe s vs) G1 (forget vs M1) H1 G6 (forget vs M6) H6 ∧ H6 D = some (.lst us) ∧ Ext G3 H3 G6 H6 ∧ ¬ G6.F D ∧ D ∉ G6.al ∧ ¬ OwnAt (forget vs M6).r (wipe s vs) D := fun {G6 M6 H6} V6 R6 => by
              obtain ⟨hD6, na6, nf6⟩ := V6.keep D _ hD4 na4 nf4 no5
              have R7 : StRep X.K E G6 (forget vs M6) (wipe s vs) H6 := (R6.forget vs).agree ls.symm fun j x e => (kk j (forget_get e).2).symm
              have own7 : ∀ a, OwnAt (forget vs M6).r (wipe s vs) a → OwnAt M3.r (wipe s vs) a := fun a ⟨j, o, e1, e2⟩ => by
                obtain ⟨e3, e4⟩ := forget_get e1
                have e5 : s'[j]? = some (some (.ref a)) := by rw [kk j e4]; exact e2
                obtain ⟨j', o', e6, e7⟩ := V6.own a ⟨j, o, e3, e5⟩
                have e8 := asgPat_own er e6
                exact ⟨j', o', e8, by rw [← kk j' (out3 j' _ e8)]; exact e7⟩
              refine ⟨R7, V3.trans ⟨V4.ext.trans V6.ext, fun a u e1 e2 e3 e4 => ?_, own7, fun a e => V4.dom a (V6.dom a e)⟩, hD6, V4.ext.trans V6.ext, nf6, na6, fun z => no3 (own7 _ z)⟩
              obtain ⟨z1, z2, z3⟩ := V4.keep a u e1 e2 e3 e4
              exact V6.keep a u z1 z2 z3 fun ⟨j, o, f1, f2⟩ => by
                have f3 := asgPat_own er f1
                exact e4 ⟨j, o, f3, by rw [← kk j (out3 j _ f3)]; exact f2⟩
            refine ⟨G4, _, R5', ?_⟩
            cases ht : t ⟨r', M3.h⟩ with
            | exn c M6 => simp only [ht] at hl3; cases hl3
            | bad => simp only [ht] at hl3; cases hl3
            | ok b M6 =>
              simp only [ht] at hl3
              intro G6 H6 V6 R6
              have R6 : StRep X.K E G6 M6 s' H6 := by rw [← hK]; exact R6
              cases b with
              | false =>
                obtain ⟨q1, q2, q3, q4, q5, q6, q7⟩ := back V6 R6
                exact iteF ⟨G6, _, acc, us, q1, q2, q3, RepVs.mono q4 _ _ racc, by omega, eD3, q5, q6, q7, fun j x e => (forget_get e).2, hl3⟩
              | true =>
                refine iteT ⟨G6, M6, by rw [hK]; exact R6, ?_⟩
                cases he : el M6 with
                | exn c M7 => simp only [he] at hl3; cases hl3
                | bad => simp only [he] at hl3; cases hl3
                | ok p M7 =>
                  simp only [he] at hl3
                  intro G7 H7 V7 R7 u ru
                  rw [hK] at R7 ru
                  obtain ⟨q1, q2, q3, q4, q5, q6, q7⟩ := back (V6.trans V7) R7
                  have x8 := ext_upd (H := H7) (o := .lst (us ++ [u])) q5
                  have lu : us.length < sizeLine := Nat.lt_of_le_of_lt hus (Nat.lt_of_lt_of_le lt w.sz)
                  exact ⟨us, q3, lu, G7, _, acc ++ [p], us ++ [u], q1.upd _ eD3 q5 q6 q7, q2.upd _ hD q5, upd_same, RepVs.mono x8 _ _ ((RepVs.mono q4 _ _ racc).snoc ru), by simp; omega, eD3, q5, q6, q7, fun j x e => (forget_get e).2, hl3⟩
        · cases hl3
      · have e1 : i = all.length := by omega
        subst e1
        rw [List.drop_length] at hl3
        unfold lcL at hl3
        split at hl3
        · rename_i c
          cases hl3
          have sa : SameAt e s (wipe s vs) := by
            cases e with
            | sl j =>
              have c : slotAt Mf j = some (.own (.lst all)) := c
              exact wipe_out (out3 j _ (slotAt_some c))
            | v p => trivial
            | fr o => trivial
          refine .inl ⟨w.stop _ G3 Mf _ H3 R3 V3.ext c sa (Nat.le_refl _), ?_⟩
          -- back to the def's slots
          have ag : ∀ (j : Nat) (x : LV), Mf.r[j]? = some (some x) → s[j]? = (wipe s vs)[j]? := fun j x e => (wipe_out (out3 j x e)).symm
          have Rf : StRep X.K E G3 Mf s H3 := R3.agree (wipe_length _ _).symm ag
          have Vf : Evo s G1 M1 H1 G3 Mf H3 := by
            refine ⟨V3.ext, fun a u e1 e2 e3 e4 => V3.keep a u e1 e2 e3 fun ⟨j, o, f1, f2⟩ => ?_, fun a ⟨j, o, f1, f2⟩ => ?_, V3.dom⟩
            · obtain ⟨f3, f4⟩ := forget_get f1
              exact e4 ⟨j, o, f3, by rw [← wipe_out (σ := s) f4]; exact f2⟩
            · obtain ⟨j', o', f3, f4⟩ := V3.own a ⟨j, o, f1, by rw [← ag j _ f1]; exact f2⟩
              obtain ⟨f5, f6⟩ := forget_get f3
              exact ⟨j', o', f5, by rw [← wipe_out (σ := s) f6]; exact f4⟩
          have noF : ¬ OwnAt Mf.r s D := fun z => no3 ((OwnAt.agree ag).mp z)
          exact h G3 H3 (V1.trans Vf) Rf _ ⟨D, _, rfl, hD3, ⟨us, rfl, Nat.le_trans hus w.sz, racc⟩, eD3, nf3, na3, noF, V1.dom _ hD⟩
        · cases hl3
end
end HF

end
section
set_option Elab.async false
set_option linter.all false
set_option maxRecDepth 20000
set_option autoImplicit false
/-! HF8: comprehensions as expressions and as stored values; defs and their calls; built-in functions and methods. -/
namespace HF
open PySem PySem.Spec PyProof.Rows L2
section
variable {X : Cx} {E : Ent} {W : WX} {N : List Str} {sc : Scope} {fs : Str → Bool} {k : Nat} {Z : Wd}

/-! ### list comprehensions -/
section
variable {elt tg iter : Expr} {ifs : List Expr} {scope : Scope} {pos : Pos} {f : Sm Src} {pt : Pat} {t : Sm Bool} {el : Sm PV}
theorem lc_rule (A : Amb Z X W N sc fs k) (own : List (Str × Nat)) (hi : FI X E W tg iter f) (hok : blkC N sc scope own = true) (hp : ∀ i ∈ pt.slots, i ∈ own.map (·.2))
    (hg : ∀ X', Amb Z X' W0 N (relS scope sc) (fun x => scope.names.lookup x == some .cell) k → FG X' tg pt)
    (ht : ∀ X', Amb Z X' W0 N (relS scope sc) (fun x => scope.names.lookup x == some .cell) k → FTs X' E W0 ifs t)
    (he : ∀ X', Amb Z X' W0 N (relS scope sc) (fun x => scope.names.lookup x == some .cell) k → FP X' E W0 elt el)
    (hs : ∀ x, foldedSetIterable iter X.env x = pure x := by intro _; rfl) : FE X E W (.ListComp elt [⟨tg, iter, ifs, 0⟩] scope pos) (eLc f pt (own.map (·.2)) t el) := by
  have bk : BlkOk X.N X.env.scope scope own := by rw [A.hN, A.hs]; exact blkOk_by hok
  refine ⟨PE.weak (pe_lc (te := tP X E W0 el) (tt := tB' X E W0 t) (g := gPat X.K pt) A.calm (by rw [A.hN]; exact A.nd) hi.pi bk (fun s H C cl fp => (hg _ (A.blk s H scope C cl fp)).pg) (fun s H C cl fp => (ht _ (A.blk s H scope C cl fp)).pe) (fun s H C cl fp => (he _ (A.blk s H scope C cl fp)).pe) hs) ?_⟩
  intro s H Q h
  exact lc_ok X rfl hp h
theorem lcset (A : Amb Z X W N sc fs k) {i : Nat} {y : Str} {py spos : Pos} (own : List (Str × Nat)) (hy : N[i]? = some y) (hyl : sc.names.lookup y = some .local) (hsw : swapsWith (.ListComp elt [⟨tg, iter, ifs, 0⟩] scope pos) (some (.Name y py)) spos.line X.env = pure true)
    (hi : FI X E W tg iter f) (hok : blkC N sc scope own = true) (hp : ∀ i ∈ pt.slots, i ∈ own.map (·.2))
    (hg : ∀ X', Amb Z X' W0 N (relS scope sc) (fun x => scope.names.lookup x == some .cell) k → FG X' tg pt)
    (ht : ∀ X', Amb Z X' W0 N (relS scope sc) (fun x => scope.names.lookup x == some .cell) k → FTs X' E W0 ifs t)
    (he : ∀ X', Amb Z X' W0 N (relS scope sc) (fun x => scope.names.lookup x == some .cell) k → FP X' E W0 elt el)
    (hs : ∀ x, foldedSetIterable iter X.env x = pure x) : PS X (.Assign [.Name y py] (.ListComp elt [⟨tg, iter, ifs, 0⟩] scope pos) spos) (tAsg (tE X E W (eLc f pt (own.map (·.2)) t el)) (gName i)) := by
  have bk : BlkOk X.N X.env.scope scope own := by rw [A.hN, A.hs]; exact blkOk_by hok
  refine PS.weak (ps_setLc (te := tP X E W0 el) (tt := tB' X E W0 t) (g := gPat X.K pt) A.calm (by rw [A.hN]; exact A.nd) (by rw [A.hN]; exact hy) (by rw [A.hs]; exact hyl) hsw hi.pi bk (fun s H C cl fp => (hg _ (A.blk s H scope C cl fp)).pg) (fun s H C cl fp => (ht _ (A.blk s H scope C cl fp)).pe) (fun s H C cl fp => (he _ (A.blk s H scope C cl fp)).pe) hs) ?_
  intro D s H h
  exact lc_ok X rfl hp h
/-- name = [..], the list the name's own -/
theorem fs_lcOwn (A : Amb Z X W N sc fs k) {i : Nat} {y : Str} {py spos : Pos} (own : List (Str × Nat)) (hy : N[i]? = some y) (hyl : sc.names.lookup y = some .local) (hl : (py.line == pos.line) = true) (hnc : (scope.names.any fun (n, k) => n == y && (k == .local || k == .cell)) = false) (hk : sc.kind = .function)
    (hi : FI X E W tg iter f) (hok : blkC N sc scope own = true) (hp : ∀ i ∈ pt.slots, i ∈ own.map (·.2))
    (hg : ∀ X', Amb Z X' W0 N (relS scope sc) (fun x => scope.names.lookup x == some .cell) k → FG X' tg pt)
    (ht : ∀ X', Amb Z X' W0 N (relS scope sc) (fun x => scope.names.lookup x == some .cell) k → FTs X' E W0 ifs t)
    (he : ∀ X', Amb Z X' W0 N (relS scope sc) (fun x => scope.names.lookup x == some .cell) k → FP X' E W0 elt el)
    (hs : ∀ x, foldedSetIterable iter X.env x = pure x := by intro _; rfl) : FS X E W (.Assign [.Name y py] (.ListComp elt [⟨tg, iter, ifs, 0⟩] scope pos) spos) (sOwn i (eLc f pt (own.map (·.2)) t el)) :=
  ⟨PS.weak (lcset A own hy hyl (sw_true (by rw [A.hs]; exact hk) (by rw [A.hs]; exact hyl) hl hnc) hi hok hp hg ht he hs) fun _ _ _ h => set_tE h⟩
end
theorem tAsg_toP {i : Nat} {f : Sm EV} {D : Ends} {s : L2.St} {H : Hp} (h : tS X E W (sSet i (toP f)) D s H) : tAsg (tE X E W f) (gName i) D s H := by
  obtain ⟨G, M, R, h⟩ := h
  refine ⟨G, M, R, ?_⟩
  simp only [sSet, toP] at h
  generalize f M = q at h
  cases q with
  | ok ev M1 =>
    intro G1 H1 V1 R1 u ru
    have h : SOut X E W D G H ((toP1 ev M1).st fun p M1 => .nx ⟨M1.r.set i (some (.v p)), M1.h⟩) := h
    have h2 := OutP.st (s := s) (M := M) h
    obtain ⟨G2, M2, p, V2, R2, rv, q⟩ := OutP.toP1 V1 R1 ru h2
    exact SOut.nxt q (R2.setV i rv)
  | exn c M1 => exact fun G' H' C R m => h G' s H' C R m
  | bad => exact h
/-- name = [..], a value -/
theorem fs_lcSet (A : Amb Z X W N sc fs k) {elt tg iter : Expr} {ifs : List Expr} {scope : Scope} {pos : Pos} {f : Sm Src} {pt : Pat} {t : Sm Bool} {el : Sm PV} {i : Nat} {y : Str} {py spos : Pos} (own : List (Str × Nat)) (hy : N[i]? = some y) (hyl : sc.names.lookup y = some .local) (hl : (py.line == pos.line) = true)
    (hnc : (scope.names.any fun (n, k) => n == y && (k == .local || k == .cell)) = false) (hk : sc.kind = .function)
    (hi : FI X E W tg iter f) (hok : blkC N sc scope own = true) (hp : ∀ i ∈ pt.slots, i ∈ own.map (·.2))
    (hg : ∀ X', Amb Z X' W0 N (relS scope sc) (fun x => scope.names.lookup x == some .cell) k → FG X' tg pt)
    (ht : ∀ X', Amb Z X' W0 N (relS scope sc) (fun x => scope.names.lookup x == some .cell) k → FTs X' E W0 ifs t)
    (he : ∀ X', Amb Z X' W0 N (relS scope sc) (fun x => scope.names.lookup x == some .cell) k → FP X' E W0 elt el)
    (hs : ∀ x, foldedSetIterable iter X.env x = pure x := by intro _; rfl) : FS X E W (.Assign [.Name y py] (.ListComp elt [⟨tg, iter, ifs, 0⟩] scope pos) spos) (sSet i (toP (eLc f pt (own.map (·.2)) t el))) :=
  ⟨PS.weak (lcset A own hy hyl (sw_true (by rw [A.hs]; exact hk) (by rw [A.hs]; exact hyl) hl hnc) hi hok hp hg ht he hs) fun _ _ _ h => tAsg_toP h⟩

/-! ### defs -/
inductive FR where
  | ok (e : EV) (h : List PO)
  | exn (c : Str) (h : List PO)
  | bad
abbrev Fn := List PV → List PO → FR
def spOf (K : PySem.W.Frag) (mg : Str → Option Value) (φ : Fn) : Sp := fun vs H Q Ex => ∃ G h ps, HpRep K G h H ∧ RepVs K G H ps vs ∧ match φ ps h with
  | .ok e h' => ∀ G' H' u, Post G H G' H' → HpRep K G' h' H' → RepR K H G' H' e u → Q u H'
  | .exn c h' => ∀ G' H' C, Post G H G' H' → HpRep K G' h' H' → mg c = some (.ref C) → Ex (.ref C) none H'
  | .bad => False
/-- a def of the module that keeps φ; ds: the values of the parameters that are left out, at the end -/
structure Known (Z : Wd) (k : Nat) (x : Str) (ds : List PV) (φ : Fn) : Prop where
  ok : ∃ (f : Addr) (fd : FuncData) (ps : List Str) (dvs : List V) (dus : List Value), FnOk Z.P Z.w Z.K Z.mg Z.base (L2.CX Z.P Z.w) k f fd ps (spOf Z.K Z.mg φ) ∧ Z.mg x = some (.ref f) ∧ PySem.W.keepIn Z.K (.ref f) = true ∧ Binds Z.K fd ps dus ∧ Vals dvs dus ∧ ∀ G H, RepVs Z.K G H ds dvs
theorem Known.mono {x : Str} {ds : List PV} {φ : Fn} {j : Nat} (h : Known Z j x ds φ) (l : j ≤ k) : Known Z k x ds φ := by
  obtain ⟨f, fd, ps, dvs, dus, F, r⟩ := h.ok
  exact ⟨f, fd, ps, dvs, dus, F.mono l, r⟩
/-- behind a call -/
theorem StRep.called {K : PySem.W.Frag} {G G' : Gh} {M : Mem} {s : L2.St} {H H' : Hp} {h' : List PO} (R : StRep K E G M s H) (p : Post G H G' H') (hr : HpRep K G' h' H') : StRep K E G' ⟨M.r, h'⟩ s H' ∧ Evo s G M H G' ⟨M.r, h'⟩ H' := by
  refine ⟨⟨R.post.trans p, hr, R.len, fun i q e => ?_, fun i o e => ?_, R.sep⟩, p.ext, fun a u e n f _ => ⟨p.keep a u e n f, p.noal e n, p.nof e f⟩, fun _ h => h, p.dom⟩
  · obtain ⟨u, h1, h2⟩ := R.slot i q e
    exact ⟨u, h1, RepV.mono p.ext _ _ h2⟩
  · obtain ⟨a, u, h1, h2, h3, h4, h5, h6⟩ := R.own i o e
    exact ⟨a, u, h1, p.keep a u h2 h6 h5, h3.mono p.ext, h4, p.nof h2 h5, p.noal h2 h6⟩
@[simp] def eCall (φ : Fn) (ds : List PV) (g : Sm (List PV)) : Sm EV := fun M => (g M).bnd fun ps M1 => match φ (ps ++ ds) M1.h with
  | .ok (.sl _) _ => .bad
  | .ok e h' => .ok e ⟨M1.r, h'⟩
  | .exn c h' => .exn c ⟨M1.r, h'⟩
  | .bad => .bad
theorem run_fnD {f : Addr} {fd : FuncData} {ps : List Str} {sp : Sp} {dvs : List V} {ds : List Value} {pins : List (Addr × Obj)} {σ : L2.St} {H : Hp} {s : Shared} {Q : VK} {us : List Value} {vs : List V}
    (F : FnOk X.prog X.w X.K X.mg X.base (L2.CX X.prog X.w) k f fd ps sp) (hr : Room k X.A) (hb : Binds X.K fd ps ds) (hd : Vals dvs ds) (tk : Takes X W)
    (I : Inv X pins σ H s) (r : Vals vs us) (h : sp (vs ++ dvs) H Q (WE W σ)) : wpAny (model X.prog X.w) X.A (call (.ref f) us) (EP X pins σ Q) X.xe s := by
  have r2 := r.append hd
  have hl : (us ++ ds).length = ps.length := r2.length.symm.trans (F.len _ _ _ _ h)
  have go := F.run X.A X.stack s H ⟨us, []⟩ (us ++ ds) (vs ++ dvs) Q (WE W σ) hr I.env0 (hb s us I.kIn hl) r2 h
  refine wpAny_call (codeAny_mono go fun z s' hq => ?_)
  cases z with
  | error e => exact passAt tk σ pins H s e s' I hq
  | ok fl =>
    cases fl with
    | ret u => exact I.after hq
    | next => exact hq.elim
    | brk => exact hq.elim
    | cont => exact hq.elim
section
variable {x : Str} {e : Expr} {es : List Expr} {p pos : Pos} {g : Sm (List PV)} {φ : Fn} {ds : List PV}
theorem fe_call (A : Amb Z X W N sc fs k) (hK : Known Z k x ds φ) (ha : FL X E W (e :: es) g) (hg : sc.names.lookup x = some .globalImplicit := by rfl) (hdb : (x == ("__debug__" : Str)) = false := by decide)
    (he : starEach (e :: es) X.env = (false, eval e X.env) :: starEach es X.env := by rfl) (hpl : (backTo pos (starEach es X.env)).any (fun z => z.1) = false := by rfl) : FE X E W (.Call (.Name x p) (e :: es) [] pos) (eCall φ ds g) := by
  obtain ⟨f, fd, ps, dvs, dus, F, hm, hk, hb, hd, hr⟩ := hK.ok
  obtain ⟨s1, s2, s3, s4, s5⟩ := A.same
  rw [← s1, ← s2, ← s3, ← s4, ← s5] at F
  rw [← s3] at hk hb hr
  rw [← s4] at hm
  refine ⟨⟨fun pins s σ H Q I h => ?_⟩⟩
  obtain ⟨G, M, R, h⟩ := h
  refine wpAny_Call_Name_kw (ld_glob I (A.gl hg) hm ?_ hdb)
  refine PySem.W.callWith_K (h₀ := X.base) I.ok.mod.kin hk (thn (ha.fa.pe.run pos pins s σ H (fun vs H1 => spOf X.K X.mg φ (vs ++ dvs) H1 Q (WE W σ)) I ?_) fun us s1 ⟨vs, H1, I1, r, q⟩ => ⟨I1.kIn, run_fnD F A.room hb hd A.tk I1 r q⟩) he hpl
  refine tL_one R h fun G1 M1 H1 ps us V1 R1 rr q => ?_
  refine ⟨G1, M1.h, ps ++ ds, R1.hp, rr.append (hr G1 H1), ?_⟩
  cases hφ : φ (ps ++ ds) M1.h with
  | bad => rw [hφ] at q; exact q
  | exn c h' =>
    rw [hφ] at q
    intro G2 H2 C p2 r2 m
    obtain ⟨R3, _⟩ := R1.called p2 r2
    exact q G2 H2 C R3 m
  | ok ev h' =>
    rw [hφ] at q
    intro G2 H2 u p2 r2 ru
    obtain ⟨R3, V3⟩ := R1.called p2 r2
    cases ev with
    | v pv => exact q G2 H2 V3 R3 u ru
    | sl i => exact q.elim
    | fr o =>
      obtain ⟨a, w, rfl, h1, ro, hn, nf, nl⟩ := ru
      have no : ¬ OwnAt M1.r σ a := fun ⟨i, o2, e1, e2⟩ => by
        obtain ⟨b, w2, z1, z2, _⟩ := R1.own i o2 e1
        rw [e2] at z1; cases z1
        rw [hn] at z2; cases z2
      exact q G2 H2 V3 R3 _ ⟨a, w, rfl, h1, ro, R1.post.dom a hn, nf, nl, no, V1.dom a hn⟩
end
/-- a def's run -/
def runDef (n m : Nat) (fb : Ss) : Fn := fun args h => if args.length = n then (match fb ⟨args.map (fun p => some (LV.v p)) ++ List.replicate (m - n) none, h⟩ with
  | .nx M => .ok (.v .non) M.h
  | .ret (.sl _) _ => .bad
  | .ret e M => .ok e M.h
  | .exn c M => .exn c M.h
  | _ => .bad) else .bad
theorem start_rep {K : PySem.W.Frag} {G : Gh} {H : Hp} {h : List PO} {ps : List PV} {vs : List V} {n m : Nat} (hp : HpRep K G h H) (r : RepVs K G H ps vs) {N : List Str} (hn : ps.length = n) (hm : N.length = m) : StRep K ⟨G, H⟩ G ⟨ps.map (fun p => some (LV.v p)) ++ List.replicate (m - n) none, h⟩ (L2.start N vs) H := by
  have lv := r.length
  have get : ∀ (i : Nat) (x : LV), (ps.map (fun p => some (LV.v p)) ++ List.replicate (m - n) none)[i]? = some (some x) → ∃ p, ps[i]? = some p ∧ x = .v p := fun i x e => by
    by_cases lt : i < ps.length
    · rw [List.getElem?_append_left (by simpa using lt), List.getElem?_map, List.getElem?_eq_getElem lt] at e
      cases e
      exact ⟨_, List.getElem?_eq_getElem lt, rfl⟩
    · rw [List.getElem?_append_right (by simpa using lt), List.getElem?_replicate] at e
      split at e <;> cases e
  refine ⟨Post.refl _ _, hp, ?_, fun i p e => ?_, fun i o e => ?_, fun i j o o' a e => ?_⟩
  · show (ps.map _ ++ List.replicate _ _).length = (L2.start N vs).length
    unfold L2.start
    simp [hm, lv, ← hn]
  · obtain ⟨q, e1, e2⟩ := get i _ e
    cases e2
    obtain ⟨v, e3, e4⟩ := r.get e1
    refine ⟨v, ?_, e4⟩
    unfold L2.start
    rw [List.getElem?_append_left (by simpa using (List.getElem?_eq_some_iff.mp e3).1), List.getElem?_map, e3]
    rfl
  · obtain ⟨q, e1, e2⟩ := get i _ e; cases e2
  · obtain ⟨q, e1, e2⟩ := get i _ e; cases e2
theorem def_ok {x qual : Str} {st : Stmt} {f : Addr} {fd : FuncData} {ps : List Str} {fb : Ss} (F : Fun Z.K x qual st f fd) (S : FnScope N ps (defScope st))
    (hb : ∀ X E W, Amb Z X W N (defScope st) (fun _ => true) k → FSs X E W (defBody st) fb) : FnOk Z.P Z.w Z.K Z.mg Z.base (L2.CX Z.P Z.w) (k + 1) f fd ps (spOf Z.K Z.mg (runDef ps.length N.length fb)) := by
  refine F.okX S (fun vs H Q Ex h => ?_) fun cdv A outer s H vs Q Ex hr h => ?_
  · obtain ⟨G, h, ps', hp, r, q⟩ := h
    unfold runDef at q
    split at q
    · rename_i hl
      split at hl
      · rename_i z; rw [← r.length]; exact z
      · cases hl
    · rename_i hl
      split at hl
      · rename_i z; rw [← r.length]; exact z
      · cases hl
    · exact q.elim
  · obtain ⟨G, h, ps', hp, r, q⟩ := h
    have hx : (cxOf (L2.CX Z.P Z.w) Z.P Z.w Z.K Z.mg Z.base N qual (defScope st) f cdv A outer s H Ex).xe = _ := rfl
    have amb : Amb Z (cxOf (L2.CX Z.P Z.w) Z.P Z.w Z.K Z.mg Z.base N qual (defScope st) f cdv A outer s H Ex) (fun c d _ H' => Ex c d H') N (defScope st) (fun _ => true) k :=
      ⟨rfl, rfl, ⟨rfl, rfl, rfl, rfl, rfl⟩, rfl, S.nd, rfl, hr, takes_of rfl rfl rfl rfl, passes_of rfl⟩
    refine ⟨_, (hb _ ⟨G, H⟩ _ amb).ps, ?_⟩
    by_cases hl : ps'.length = ps.length
    · refine ⟨G, ⟨ps'.map (fun p => some (LV.v p)) ++ List.replicate (N.length - ps.length) none, h⟩, start_rep hp r hl rfl, ?_⟩
      unfold runDef at q
      rw [if_pos hl] at q
      generalize fb ⟨ps'.map (fun p => some (LV.v p)) ++ List.replicate (N.length - ps.length) none, h⟩ = z at q
      cases z with
      | nx M => exact fun G' s' H' x R' => q G' H' _ R'.post R'.hp (show RepV Z.K G' H' .non .non by simp only [RepV])
      | ret e M =>
        intro G' s' H' u R' ru
        cases e with
        | v p => exact q G' H' u R'.post R'.hp ru
        | fr o =>
          obtain ⟨a, w, e, h1, ro, hn, nf, nl, no, _⟩ := ru
          exact q G' H' u R'.post R'.hp ⟨a, w, e, h1, ro, hn, nf, nl⟩
        | sl i => exact q.elim
      | exn c M => exact fun G' s' H' C R' m => q G' H' C R'.post R'.hp m
      | brk M => exact q.elim
      | cnt M => exact q.elim
      | bad => exact q.elim
    · unfold runDef at q
      rw [if_neg hl] at q
      exact q.elim
end
end HF

end
section
set_option Elab.async false
set_option linter.all false
set_option maxRecDepth 20000
set_option autoImplicit false
/-! HF9: built-in functions; methods of lists and texts. -/
namespace HF
open PySem PySem.Spec PyProof.Rows L2
section
variable {X : Cx} {E : Ent} {W : WX} {N : List Str} {sc : Scope} {fs : Str → Bool} {k : Nat} {Z : Wd}
theorem Amb.no (A : Amb Z X W N sc fs k) {x : Str} (h : Z.mg x = none) : X.mg x = none := by rw [A.same.2.2.2.1]; exact h

/-! ### one argument -/
abbrev Op1 := EV → Mem → Option EV
@[simp] def e1 (op : Op1) (f : Sm EV) : Sm EV := fun M => (f M).bnd fun x M1 => optR (op x M1) M1
def Op1Ok (X : Cx) (r : V → Hp → VK → Prop) (op : Op1) : Prop := ∀ (E : Ent) (s : L2.St) (G : Gh) (M : Mem) (H H0 : Hp) (x : EV) (u : V) (ev : EV) (Q : VK), StRep X.K E G M s H → (∀ a, H a = none → H0 a = none) →
  RepE X.K E H0 G M s H x u → op x M = some ev → (∀ G' H' w, Evo s G M H G' M H' → StRep X.K E G' M s H' → RepE X.K E H0 G' M s H' ev w → Q w H') → r u H Q
theorem Op1Ok.or {r r' : V → Hp → VK → Prop} {o o' : Op1} (h : Op1Ok X r o) (h' : Op1Ok X r' o') : Op1Ok X (fun x H Q => r x H Q ∨ r' x H Q) (fun x M => (o x M).or (o' x M)) := by
  intro E s G M H H0 x u ev Q R d rx e q
  simp only at e
  cases e1 : o x M with
  | some w =>
    rw [e1] at e
    cases e
    exact .inl (h E s G M H H0 x u _ Q R d rx e1 q)
  | none =>
    rw [e1] at e
    exact .inr (h' E s G M H H0 x u ev Q R d rx e q)
theorem tE_op1 {f : Sm EV} {r : V → Hp → VK → Prop} {op : Op1} (ok : Op1Ok X r op) {s : L2.St} {H : Hp} {Q : VK} (h : tE X E W (e1 op f) s H Q) : tE X E W f s H fun x H1 => r x H1 Q := by
  obtain ⟨G, M, R, h⟩ := h
  refine tE_one R h fun G1 M1 H1 x u V1 R1 rx h1 => ?_
  cases eo : op x M1 with
  | none => rw [eo] at h1; exact h1.elim
  | some ev =>
    rw [eo] at h1
    exact ok E s G1 M1 H1 H x u ev Q R1 V1.dom rx eo fun G' H' w V3 R3 rw' => h1 G' H' V3 R3 w rw'
section
variable {e e' : Expr} {f g : Sm EV} {x : Str} {id T : String} {p pos : Pos}
theorem fe_b1 (A : Amb Z X W N sc fs k) {r : List V → Hp → VK → Prop} {op : Op1} (hc : CallR X (.builtin id) r) (ok : Op1Ok X (fun u => r [u]) op) (hm : Z.mg x = none) (hv : bootBuiltins x = some (.builtin id)) (he : FE X E W e f)
    (hg : sc.names.lookup x = some .globalImplicit) (hn : x ≠ "__name__") (hdb : (x == ("__debug__" : Str)) = false) (h1 : starEach [e] X.env = (false, eval e X.env) :: starEach [] X.env := by rfl) : FE X E W (.Call (.Name x p) [e] [] pos) (e1 op f) :=
  ⟨PE.weak (pe_callB hc (A.gl hg) (A.no hm) hv (pa_cons he.pe pa_nil h1) hn hdb h1) fun _ _ _ h => tE_op1 ok h⟩
theorem fe_t1 (A : Amb Z X W N sc fs k) {r : List V → Hp → VK → Prop} {op : Op1} (hc : CallR X (.type T) r) (ok : Op1Ok X (fun u => r [u]) op) (hm : Z.mg x = none) (hv : bootBuiltins x = some (.type T)) (he : FE X E W e f)
    (hg : sc.names.lookup x = some .globalImplicit) (hn : x ≠ "__name__") (hdb : (x == ("__debug__" : Str)) = false) (h1 : starEach [e] X.env = (false, eval e X.env) :: starEach [] X.env := by rfl) : FE X E W (.Call (.Name x p) [e] [] pos) (e1 op f) :=
  ⟨PE.weak (pe_callTy hc (A.gl hg) (A.no hm) hv (pa_cons he.pe pa_nil h1) hn hdb h1) fun _ _ _ h => tE_op1 ok h⟩
theorem tE_op2 {r : R2} {op : Op2} (ok : Op2Ok X r op) {s : L2.St} {H : Hp} {Q : VK} (h : tE X E W (e2 op f g) s H Q) : tE X E W f s H fun x H1 => tE X E W g s H1 fun y H2 => r x y H2 Q := tE_two ok h
theorem fe_b2 (A : Amb Z X W N sc fs k) {r : List V → Hp → VK → Prop} {op : Op2} (hc : CallR X (.builtin id) r) (ok : Op2Ok X (fun u v => r [u, v]) op) (hm : Z.mg x = none) (hv : bootBuiltins x = some (.builtin id)) (he : FE X E W e f) (he' : FE X E W e' g)
    (hg : sc.names.lookup x = some .globalImplicit) (hn : x ≠ "__name__") (hdb : (x == ("__debug__" : Str)) = false) (h1 : starEach [e, e'] X.env = (false, eval e X.env) :: starEach [e'] X.env := by rfl) (h2 : starEach [e'] X.env = (false, eval e' X.env) :: starEach [] X.env := by rfl)
    (hpl : (backTo pos (starEach [e'] X.env)).any (fun z => z.1) = false := by rfl) : FE X E W (.Call (.Name x p) [e, e'] [] pos) (e2 op f g) :=
  ⟨PE.weak (pe_callB hc (A.gl hg) (A.no hm) hv (pa_cons he.pe (pa_cons he'.pe pa_nil h2) h1) hn hdb h1 hpl) fun _ _ _ h => tE_op2 ok h⟩
end
/-! len -/
@[simp] def opLen : Op1 := fun x M => match x with
  | .v (.tup xs) => some (.v (.int xs.length))
  | .v (.str z) => if z.length ≤ sizeLine then some (.v (.int z.length)) else none
  | x => match asLst M x with
    | some xs => some (.v (.int xs.length))
    | none => match asDct M x with
      | some (ks, _) => some (.v (.int ks.length))
      | none => none
def rLenR (K : PySem.W.Frag) : List V → Hp → VK → Prop := fun xs H Q => (∃ p ys, xs = [.ref p] ∧ (SqL K H p ys ∨ SqT K H p ys) ∧ Q (.int ys.length) H) ∨ (∃ z, xs = [.str z] ∧ z.length ≤ sizeLine ∧ Q (.int z.length) H) ∨ ∃ a kvs, xs = [V.ref a] ∧ Rd H a (.dK kvs) ∧ Q (.int kvs.length) H
theorem call_lenR : CallR X (.builtin "len") (rLenR X.K) := by
  refine CallR.or call_len_seq (CallR.or call_len_str ?_)
  intro pins s σ H xs us Q I r h
  obtain ⟨a, kvs, rfl, ha, q⟩ := h
  obtain ⟨u, rfl, ru⟩ := vals1 r
  cases ru
  exact d_len I ha fun t s' I' => ⟨.int kvs.length, H, I', ⟨t, rfl⟩, q⟩
theorem repV_int {E : Ent} {H0 : Hp} {G : Gh} {M : Mem} {s : L2.St} {H : Hp} {i : Int} : RepE X.K E H0 G M s H (.v (.int i)) (.int i) := show RepV X.K G H (.int i) _ by simp only [RepV]
theorem opLen_ok : Op1Ok X (fun u => rLenR X.K [u]) opLen := by
  intro E s G M H H0 x u ev Q R d rx e q
  have fin : ∀ {n m : Nat}, ev = .v (.int n) → n = m → Q (.int m) H := fun {n m} e h => q G H _ (Evo.refl _ _ _ _) R (by subst e; subst h; exact repV_int)
  simp only [opLen] at e
  split at e
  · cases e
    obtain ⟨a, us, rfl, ha, ra, za⟩ := repE_tup rx
    exact .inl ⟨a, us, rfl, .inr ha, fin rfl ra.length⟩
  · split at e
    · rename_i z hz
      cases e
      exact .inr (.inl ⟨_, by rw [repE_str rx], hz, fin rfl rfl⟩)
    · cases e
  · split at e
    · rename_i xs e1
      cases e
      obtain ⟨a, us, rfl, ha, ra, za⟩ := lst_of R rx e1
      exact .inl ⟨a, us, rfl, .inl ha, fin rfl ra.length⟩
    · split at e
      · rename_i ks xs e1
        cases e
        obtain ⟨a, kvs, rfl, hr, hk, rr, z⟩ := dct_of R rx e1
        exact .inr (.inr ⟨a, kvs, rfl, hr, fin rfl (by rw [← hk]; simp)⟩)
      · cases e
/-! list, tuple -/
@[simp] def opLst : Op1 := fun x M => match x with
  | .v (.tup xs) => some (.fr (.lst xs))
  | x => (asLst M x).map fun xs => .fr (.lst xs)
theorem opLst_ok : Op1Ok X (fun u H Q => ∃ p ys, [u] = [V.ref p] ∧ (SqL X.K H p ys ∨ SqT X.K H p ys) ∧ ∀ l, H l = none → Q (.ref l) (upd H l (.lst ys))) opLst := by
  intro E s G M H H0 x u ev Q R d rx e q
  have go : ∀ {xs a us}, ev = .fr (.lst xs) → RepVs X.K G H xs us → us.length ≤ sizeLine → u = .ref a → (SqL X.K H a us ∨ SqT X.K H a us) → ∃ p ys, [u] = [V.ref p] ∧ (SqL X.K H p ys ∨ SqT X.K H p ys) ∧ ∀ l, H l = none → Q (.ref l) (upd H l (.lst ys)) := fun {xs a us} e rr z eu h =>
    ⟨a, us, by rw [eu], h, fun l hl => by
      obtain ⟨V1, R1, r1⟩ := rep_newlst (H0 := H0) R d rr z hl
      exact q G _ _ V1 R1 (by rw [e]; exact r1)⟩
  simp only [opLst] at e
  split at e
  · cases e
    obtain ⟨a, us, eu, ha, ra, za⟩ := repE_tup rx
    exact go rfl ra za eu (.inr ha)
  · cases e1 : asLst M x with
    | none => rw [e1] at e; cases e
    | some xs =>
      rw [e1] at e; cases e
      obtain ⟨a, us, eu, ha, ra, za⟩ := lst_of R rx e1
      exact go rfl ra za eu (.inl ha)
@[simp] def opTupOf : Op1 := fun x M => match x with
  | .v (.tup xs) => some (.v (.tup xs))
  | x => (asLst M x).map fun xs => .v (.tup xs)
theorem opTupOf_ok : Op1Ok X (fun u H Q => ∃ p ys, [u] = [V.ref p] ∧ ((SqL X.K H p ys ∧ ∀ l, H l = none → Q (.ref l) (upd H l (.tup ys))) ∨ (SqT X.K H p ys ∧ Q (.ref p) H))) opTupOf := by
  intro E s G M H H0 x u ev Q R d rx e q
  simp only [opTupOf] at e
  split at e
  · cases e
    obtain ⟨a, us, rfl, ha, ra, za⟩ := repE_tup rx
    exact ⟨a, us, rfl, .inr ⟨ha, q G H _ (Evo.refl _ _ _ _) R rx⟩⟩
  · cases e1 : asLst M x with
    | none => rw [e1] at e; cases e
    | some xs =>
      rw [e1] at e; cases e
      obtain ⟨a, us, rfl, ha, ra, za⟩ := lst_of R rx e1
      refine ⟨a, us, rfl, .inl ⟨ha, fun l hl => ?_⟩⟩
      obtain ⟨V1, R1, r1⟩ := rep_newtup R ra za hl
      exact q _ _ _ V1 R1 r1
/-! max, min of two; of a list; sum; all, any -/
@[simp] def opMax2 : Op2 := opI2' fun i j => if j > i then j else i
@[simp] def opMin2 : Op2 := opI2' fun i j => if j < i then j else i
theorem opI2b_ok {f : Int → Int → Int} : Op2Ok X (fun u v H Q => ∃ i j, [u, v] = [V.int i, V.int j] ∧ Q (.int (f i j)) H) (opI2' f) := by
  intro E s G M H H0 x y u v ev Q R d rx ry e q
  obtain ⟨i, j, h1, h2, h3⟩ := opI2'_ok E s G M H H0 x y u v ev Q R d rx ry e q
  exact ⟨i, j, by rw [h1, h2], h3⟩
@[simp] def asInts : List PV → Option (List Int)
  | [] => some []
  | .int i :: r => (asInts r).map (i :: ·)
  | _ => none
theorem asInts_map (ns : List Int) : asInts (ns.map PV.int) = some ns := by
  induction ns with
  | nil => rfl
  | cons n ns ih => simp [ih]
theorem asInts_rep {G : Gh} {H : Hp} : ∀ {xs : List PV} {us : List V} {ns : List Int}, asInts xs = some ns → RepVs X.K G H xs us → us = ns.map V.int
  | [], us, ns, e, r => by cases e; rw [RepVs.nil_iff.mp r]; rfl
  | x :: xs, us, ns, e, r => by
    obtain ⟨u, ws, rfl, r1, r2⟩ := RepVs.cons_iff.mp r
    cases x <;> simp only [asInts] at e <;> try cases e
    rename_i i
    cases e1 : asInts xs with
    | none => rw [e1] at e; cases e
    | some ms =>
      rw [e1] at e; cases e
      rw [asInts_rep e1 r2, ints_rep.mp r1]
      rfl
@[simp] def asBls : List PV → Option (List Bool)
  | [] => some []
  | .bl i :: r => (asBls r).map (i :: ·)
  | _ => none
theorem asBls_map (ns : List Bool) : asBls (ns.map PV.bl) = some ns := by
  induction ns with
  | nil => rfl
  | cons n ns ih => simp [ih]
theorem asBls_rep {G : Gh} {H : Hp} : ∀ {xs : List PV} {us : List V} {ns : List Bool}, asBls xs = some ns → RepVs X.K G H xs us → us = ns.map V.bl
  | [], us, ns, e, r => by cases e; rw [RepVs.nil_iff.mp r]; rfl
  | x :: xs, us, ns, e, r => by
    obtain ⟨u, ws, rfl, r1, r2⟩ := RepVs.cons_iff.mp r
    cases x <;> simp only [asBls] at e <;> try cases e
    rename_i i
    cases e1 : asBls xs with
    | none => rw [e1] at e; cases e
    | some ms =>
      rw [e1] at e; cases e
      simp only [RepV] at r1
      rw [asBls_rep e1 r2, r1]
      rfl
@[simp] def asStrs : List PV → Option (List Str)
  | [] => some []
  | .str i :: r => (asStrs r).map (i :: ·)
  | _ => none
theorem asStrs_map (ns : List Str) : asStrs (ns.map PV.str) = some ns := by
  induction ns with
  | nil => rfl
  | cons n ns ih => simp [ih]
theorem asStrs_rep {G : Gh} {H : Hp} : ∀ {xs : List PV} {us : List V} {ns : List Str}, asStrs xs = some ns → RepVs X.K G H xs us → us = ns.map V.str
  | [], us, ns, e, r => by cases e; rw [RepVs.nil_iff.mp r]; rfl
  | x :: xs, us, ns, e, r => by
    obtain ⟨u, ws, rfl, r1, r2⟩ := RepVs.cons_iff.mp r
    cases x <;> simp only [asStrs] at e <;> try cases e
    rename_i i
    cases e1 : asStrs xs with
    | none => rw [e1] at e; cases e
    | some ms =>
      rw [e1] at e; cases e
      simp only [RepV] at r1
      rw [asStrs_rep e1 r2, r1]
      rfl
/-- the greatest -/
def maxOf : List Int → Int
  | [] => 0
  | [n] => n
  | n :: m :: r => max n (maxOf (m :: r))
theorem maxOf_mem : ∀ {ns : List Int}, ns ≠ [] → maxOf ns ∈ ns ∧ ∀ y ∈ ns, y ≤ maxOf ns
  | [], h => absurd rfl h
  | [n], _ => by simp [maxOf]
  | n :: m :: r, _ => by
    obtain ⟨h1, h2⟩ := maxOf_mem (ns := m :: r) (by simp)
    unfold maxOf
    refine ⟨?_, fun y hy => ?_⟩
    · by_cases h : n ≤ maxOf (m :: r)
      · rw [Int.max_eq_right h]; exact List.mem_cons_of_mem _ h1
      · rw [Int.max_eq_left (by omega)]; exact List.mem_cons_self
    · rcases List.mem_cons.mp hy with z | z
      · subst z; omega
      · have := h2 y z; omega
@[simp] def opMax1 : Op1 := fun x M => match (asLst M x).bind asInts with
  | some (n :: ns) => some (.v (.int (maxOf (n :: ns))))
  | _ => none
theorem opMax1_ok : Op1Ok X (fun u => rMax X.K [u]) opMax1 := by
  intro E s G M H H0 x u ev Q R d rx e q
  simp only [opMax1] at e
  cases e1 : asLst M x with
  | none => rw [e1] at e; cases e
  | some xs =>
    rw [e1] at e
    simp only [Option.bind_some] at e
    split at e
    · rename_i n ns e2
      cases e
      obtain ⟨a, us, rfl, ha, ra, za⟩ := lst_of R rx e1
      have eu := asInts_rep e2 ra
      subst eu
      refine ⟨a, n :: ns, rfl, ha, by simp, fun m hm hb => ?_⟩
      obtain ⟨h1, h2⟩ := maxOf_mem (ns := n :: ns) (by simp)
      have em : m = maxOf (n :: ns) := Int.le_antisymm (h2 m hm) (hb _ h1)
      exact q G H _ (Evo.refl _ _ _ _) R (by rw [em]; exact repV_int)
    · cases e
@[simp] def opSum : Op1 := fun x M => ((asLst M x).bind asInts).map fun ns => .v (.int ns.sum)
theorem opSum_ok : Op1Ok X (fun u => rSum X.K [u]) opSum := by
  intro E s G M H H0 x u ev Q R d rx e q
  simp only [opSum] at e
  cases e1 : asLst M x with
  | none => rw [e1] at e; cases e
  | some xs =>
    rw [e1] at e
    simp only [Option.bind_some] at e
    cases e2 : asInts xs with
    | none => rw [e2] at e; cases e
    | some ns =>
      rw [e2] at e; cases e
      obtain ⟨a, us, rfl, ha, ra, za⟩ := lst_of R rx e1
      have eu := asInts_rep e2 ra
      subst eu
      exact ⟨a, ns, rfl, ha, q G H _ (Evo.refl _ _ _ _) R repV_int⟩
@[simp] def opAll : Op1 := fun x M => ((asLst M x).bind asBls).map fun ns => .v (.bl (ns.all id))
@[simp] def opAny : Op1 := fun x M => ((asLst M x).bind asBls).map fun ns => .v (.bl (ns.any id))
theorem opAll_ok : Op1Ok X (fun u => rAll X.K [u]) opAll := by
  intro E s G M H H0 x u ev Q R d rx e q
  simp only [opAll] at e
  cases e1 : asLst M x with
  | none => rw [e1] at e; cases e
  | some xs =>
    rw [e1] at e
    simp only [Option.bind_some] at e
    cases e2 : asBls xs with
    | none => rw [e2] at e; cases e
    | some ns =>
      rw [e2] at e; cases e
      obtain ⟨a, us, rfl, ha, ra, za⟩ := lst_of R rx e1
      have eu := asBls_rep e2 ra
      subst eu
      exact ⟨a, ns, rfl, ha, q G H _ (Evo.refl _ _ _ _) R repE_blI⟩
theorem opAny_ok : Op1Ok X (fun u => rAny X.K [u]) opAny := by
  intro E s G M H H0 x u ev Q R d rx e q
  simp only [opAny] at e
  cases e1 : asLst M x with
  | none => rw [e1] at e; cases e
  | some xs =>
    rw [e1] at e
    simp only [Option.bind_some] at e
    cases e2 : asBls xs with
    | none => rw [e2] at e; cases e
    | some ns =>
      rw [e2] at e; cases e
      obtain ⟨a, us, rfl, ha, ra, za⟩ := lst_of R rx e1
      have eu := asBls_rep e2 ra
      subst eu
      exact ⟨a, ns, rfl, ha, q G H _ (Evo.refl _ _ _ _) R repE_blI⟩
section
variable {e e' : Expr} {f g : Sm EV} {p pos : Pos}
theorem fe_len (A : Amb Z X W N sc fs k) (hm : Z.mg ("len" : Str) = none) (he : FE X E W e f) (hg : sc.names.lookup ("len" : Str) = some .globalImplicit := by rfl) (h1 : starEach [e] X.env = (false, eval e X.env) :: starEach [] X.env := by rfl) : FE X E W (.Call (.Name "len" p) [e] [] pos) (e1 opLen f) :=
  fe_b1 A call_lenR opLen_ok hm PySem.boot_len he hg (by decide) (by decide) h1
theorem fe_list (A : Amb Z X W N sc fs k) (hm : Z.mg ("list" : Str) = none) (he : FE X E W e f) (hg : sc.names.lookup ("list" : Str) = some .globalImplicit := by rfl) (h1 : starEach [e] X.env = (false, eval e X.env) :: starEach [] X.env := by rfl) : FE X E W (.Call (.Name "list" p) [e] [] pos) (e1 opLst f) :=
  fe_t1 A call_list_of opLst_ok hm PyProof.Rows.boot_list he hg (by decide) (by decide) h1
theorem fe_tuple (A : Amb Z X W N sc fs k) (hm : Z.mg ("tuple" : Str) = none) (he : FE X E W e f) (hg : sc.names.lookup ("tuple" : Str) = some .globalImplicit := by rfl) (h1 : starEach [e] X.env = (false, eval e X.env) :: starEach [] X.env := by rfl) : FE X E W (.Call (.Name "tuple" p) [e] [] pos) (e1 opTupOf f) :=
  fe_t1 A call_tuple_of opTupOf_ok hm PyProof.Rows.boot_tuple he hg (by decide) (by decide) h1
theorem fe_max1 (A : Amb Z X W N sc fs k) (hm : Z.mg ("max" : Str) = none) (he : FE X E W e f) (hg : sc.names.lookup ("max" : Str) = some .globalImplicit := by rfl) (h1 : starEach [e] X.env = (false, eval e X.env) :: starEach [] X.env := by rfl) : FE X E W (.Call (.Name "max" p) [e] [] pos) (e1 opMax1 f) :=
  fe_b1 A (cr_max A.calm) opMax1_ok hm PyProof.Rows.boot_max he hg (by decide) (by decide) h1
theorem fe_sum (A : Amb Z X W N sc fs k) (hm : Z.mg ("sum" : Str) = none) (he : FE X E W e f) (hg : sc.names.lookup ("sum" : Str) = some .globalImplicit := by rfl) (h1 : starEach [e] X.env = (false, eval e X.env) :: starEach [] X.env := by rfl) : FE X E W (.Call (.Name "sum" p) [e] [] pos) (e1 opSum f) :=
  fe_b1 A (cr_sum A.calm) opSum_ok hm PyProof.Rows.boot_sum he hg (by decide) (by decide) h1
theorem fe_all (A : Amb Z X W N sc fs k) (hm : Z.mg ("all" : Str) = none) (he : FE X E W e f) (hg : sc.names.lookup ("all" : Str) = some .globalImplicit := by rfl) (h1 : starEach [e] X.env = (false, eval e X.env) :: starEach [] X.env := by rfl) : FE X E W (.Call (.Name "all" p) [e] [] pos) (e1 opAll f) :=
  fe_b1 A (cr_all A.calm) opAll_ok hm (by decide +kernel) he hg (by decide) (by decide) h1
theorem fe_any (A : Amb Z X W N sc fs k) (hm : Z.mg ("any" : Str) = none) (he : FE X E W e f) (hg : sc.names.lookup ("any" : Str) = some .globalImplicit := by rfl) (h1 : starEach [e] X.env = (false, eval e X.env) :: starEach [] X.env := by rfl) : FE X E W (.Call (.Name "any" p) [e] [] pos) (e1 opAny f) :=
  fe_b1 A (cr_any A.calm) opAny_ok hm (by decide +kernel) he hg (by decide) (by decide) h1
theorem fe_max2 (A : Amb Z X W N sc fs k) (hm : Z.mg ("max" : Str) = none) (he : FE X E W e f) (he' : FE X E W e' g) (hg : sc.names.lookup ("max" : Str) = some .globalImplicit := by rfl) (h1 : starEach [e, e'] X.env = (false, eval e X.env) :: starEach [e'] X.env := by rfl) (h2 : starEach [e'] X.env = (false, eval e' X.env) :: starEach [] X.env := by rfl)
    (hpl : (backTo pos (starEach [e'] X.env)).any (fun z => z.1) = false := by rfl) : FE X E W (.Call (.Name "max" p) [e, e'] [] pos) (e2 opMax2 f g) :=
  fe_b2 A (call_max2 A.calm) opI2b_ok hm PyProof.Rows.boot_max he he' hg (by decide) (by decide) h1 h2 hpl
theorem fe_min2 (A : Amb Z X W N sc fs k) (hm : Z.mg ("min" : Str) = none) (he : FE X E W e f) (he' : FE X E W e' g) (hg : sc.names.lookup ("min" : Str) = some .globalImplicit := by rfl) (h1 : starEach [e, e'] X.env = (false, eval e X.env) :: starEach [e'] X.env := by rfl) (h2 : starEach [e'] X.env = (false, eval e' X.env) :: starEach [] X.env := by rfl)
    (hpl : (backTo pos (starEach [e'] X.env)).any (fun z => z.1) = false := by rfl) : FE X E W (.Call (.Name "min" p) [e, e'] [] pos) (e2 opMin2 f g) :=
  fe_b2 A (call_min2 A.calm) opI2b_ok hm PyProof.Rows.boot_min he he' hg (by decide) (by decide) h1 h2 hpl
end
/-! isinstance with a built-in class -/
@[simp] def tyName (M : Mem) : EV → Option String
  | .v .non => some "NoneType"
  | .v (.bl _) => some "bool"
  | .v (.int _) => some "int"
  | .v (.str _) => some "str"
  | .v (.tup _) => some "tuple"
  | .v (.lst _) => some "list"
  | .v (.rol _) => some "list"
  | .v (.dct _ _) => some "dict"
  | .v (.con _) => none
  | e => match asLst M e with
    | some _ => some "list"
    | none => match asDct M e with
      | some _ => some "dict"
      | none => none
theorem tyName_rep {E : Ent} {H0 : Hp} {G : Gh} {M : Mem} {s : L2.St} {H : Hp} {e : EV} {u : V} {t : String} (R : StRep X.K E G M s H) (r : RepE X.K E H0 G M s H e u) (h : tyName M e = some t) : TyX X.K H u (.type t) := by
  have lst : ∀ {a us}, SqL X.K H a us → TyX X.K H (.ref a) (.type "list") := fun {a us} q => by
    rcases q with (q | ⟨o, q⟩) | ⟨o, its, n, q, c, _⟩
    · exact .base (.lst q)
    · exact .base (.frz q)
    · exact .kList q c
  have dct : ∀ {a kvs}, Rd H a (.dK kvs) → TyX X.K H (.ref a) (.type "dict") := fun {a kvs} q => by
    rcases q with q | ⟨o, q⟩
    · exact .base (.dK q)
    · exact .fDict q
  have oth : ∀ {e : EV}, RepE X.K E H0 G M s H e u → (match asLst M e with | some _ => some "list" | none => match asDct M e with | some _ => some "dict" | none => none) = some t → TyX X.K H u (.type t) := fun {e} r h => by
    split at h
    · rename_i xs e1
      cases h
      obtain ⟨a, us, rfl, ha, _⟩ := lst_of R r e1
      exact lst ha
    · split at h
      · rename_i z e1
        cases h
        obtain ⟨ks, xs⟩ := z
        obtain ⟨a, us, rfl, ha, _⟩ := dct_of R r e1
        exact dct ha
      · cases h
  cases e with
  | v p =>
    have rv : RepV X.K G H p u := r
    cases p with
    | non => simp only [RepV] at rv; subst rv; cases h; exact .base .non
    | bl b => simp only [RepV] at rv; subst rv; cases h; exact .base (.bl b)
    | int b => simp only [RepV] at rv; subst rv; cases h; exact .base (.int b)
    | str b => simp only [RepV] at rv; subst rv; cases h; exact .base (.str b)
    | tup b =>
      cases h
      obtain ⟨a, us, rfl, q, _⟩ := tup_of rv
      rcases q with (q | ⟨o, q⟩) | ⟨o, its, n, q, c, _⟩
      · exact .base (.tup q)
      · exact .fTuple q
      · exact .kTuple q c
    | lst b => cases h; obtain ⟨a, us, rfl, ha, _⟩ := lst_of (xs := b) R r rfl; exact lst ha
    | rol b => cases h; obtain ⟨a, us, rfl, ha, _⟩ := lst_of (xs := b) R r rfl; exact lst ha
    | dct b c => cases h; obtain ⟨a, us, rfl, ha, _⟩ := dct_of (ks := b) (xs := c) R r rfl; exact dct ha
    | con a => cases h
    | ref c => exact oth r h
  | fr o => exact oth r h
  | sl i => exact oth r h
@[simp] def opIsi (T : String) : Op1 := fun x M => match tyName M x with
  | some t => (kitB t T).map fun b => .v (.bl b)
  | none => none
theorem fe_isi (A : Amb Z X W N sc fs k) {T : String} {x : Str} {e : Expr} {f : Sm EV} {p p2 pos : Pos} (hm : Z.mg ("isinstance" : Str) = none) (hmT : Z.mg x = none) (hv : bootBuiltins x = some (.type T)) (he : FE X E W e f) (hg : sc.names.lookup ("isinstance" : Str) = some .globalImplicit := by rfl) (hgT : sc.names.lookup x = some .globalImplicit := by rfl)
    (hn : x ≠ "__name__" := by decide) (hdb : (x == ("__debug__" : Str)) = false := by decide) (h1 : starEach [e, .Name x p2] X.env = (false, eval e X.env) :: starEach [.Name x p2] X.env := by rfl) : FE X E W (.Call (.Name "isinstance" p) [e, .Name x p2] [] pos) (e1 (opIsi T) f) := by
  refine ⟨PE.weak (pe_callB call_isi (A.gl hg) (A.no hm) PyProof.Rows.boot_isinstance (pa_cons he.pe (pa_cons (pe_bltn (v := .ty T) (A.gl hgT) (A.no hmT) hv rfl hn hdb) pa_nil) h1) (by decide) (by decide) h1) ?_⟩
  intro s H Q h
  refine tE_op1 (r := fun u H Q => rIsi X.K [u, .ty T] H Q) (fun E s G M H H0 x u ev Q R d rx e q => ?_) h
  simp only [opIsi] at e
  cases e1 : tyName M x with
  | none => rw [e1] at e; cases e
  | some t =>
    rw [e1] at e
    cases e2 : kitB t T with
    | none => simp only [e2] at e; cases e
    | some b =>
      simp only [e2] at e; cases e
      exact ⟨u, .ty T, .type t, .type T, b, rfl, .ty T, tyName_rep R rx e1, kit_ty e2, q G H _ (Evo.refl _ _ _ _) R repE_blI⟩
theorem boot_tint : bootBuiltins ("int" : Str) = some (.type "int") := PyProof.Rows.boot_int
theorem boot_tbool : bootBuiltins ("bool" : Str) = some (.type "bool") := PyProof.Rows.boot_bool
theorem boot_tstr : bootBuiltins ("str" : Str) = some (.type "str") := PyProof.Rows.boot_str
theorem boot_ttuple : bootBuiltins ("tuple" : Str) = some (.type "tuple") := PyProof.Rows.boot_tuple
theorem boot_tlist : bootBuiltins ("list" : Str) = some (.type "list") := PyProof.Rows.boot_list
theorem boot_tdict : bootBuiltins ("dict" : Str) = some (.type "dict") := PyProof.Rows.boot_dict
end
end HF

end
section
set_option Elab.async false
set_option linter.all false
set_option maxRecDepth 20000
set_option autoImplicit false
/-! HF10: things that change; join; the end of a law. -/
namespace HF
open PySem PySem.Spec PyProof.Rows L2
section
variable {X : Cx} {E : Ent} {W : WX} {N : List Str} {sc : Scope} {fs : Str → Bool} {k : Nat} {Z : Wd}
@[simp] def mutAt (M : Mem) : EV → Option PO
  | .sl i => match slotAt M i with
    | some (.own o) => some o
    | _ => none
  | .v (.ref r) => cellAt M r
  | _ => none
@[simp] def mutPut (x : EV) (o : PO) (M : Mem) : Mem := match x with
  | .sl i => ⟨M.r.set i (some (.own o)), M.h⟩
  | .v (.ref r) => ⟨M.r, M.h.set r o⟩
  | _ => M
theorem mut_ok {E : Ent} {s : L2.St} {G : Gh} {M : Mem} {H H0 : Hp} {x : EV} {u : V} {o : PO} (R : StRep X.K E G M s H) (rx : RepE X.K E H0 G M s H x u) (h : mutAt M x = some o) :
    ∃ a w, u = .ref a ∧ H a = some w ∧ RepO X.K G H o w ∧ ¬ G.F a ∧ ∀ o' w', RepO X.K G H o' w' → StRep X.K E G (mutPut x o' M) s (upd H a w') ∧ Evo s G M H G (mutPut x o' M) (upd H a w') := by
  cases x with
  | v p =>
    cases p <;> simp only [mutAt] at h <;> try cases h
    rename_i r
    have rx : RepV X.K G H (.ref r) u := rx
    simp only [RepV] at rx
    obtain ⟨a, rfl, ha⟩ := rx
    have hr : M.h[r]? = some o := h
    obtain ⟨nf, w, h1, h2⟩ := R.hp.obj r a o ha hr
    exact ⟨a, w, rfl, h1, h2, nf, fun o' w' ro => R.celled hr ha ro⟩
  | fr o => cases h
  | sl i =>
    simp only [mutAt] at h
    split at h
    · rename_i eo
      cases h
      have ei := slotAt_some eo
      obtain ⟨a, w, e1, h1, h2, h3, h4, h5⟩ := R.own i o ei
      have rx : s[i]? = some (some u) := rx
      rw [e1] at rx; cases rx
      exact ⟨a, w, rfl, h1, h2, h4, fun o' w' ro => R.wrote ei e1 ro⟩
    · cases h
theorem repE_non {E : Ent} {H0 : Hp} {G : Gh} {M : Mem} {s : L2.St} {H : Hp} : RepE X.K E H0 G M s H (.v .non) .non := show RepV X.K G H .non _ by simp only [RepV]

/-! ### methods of lists -/
/-- a list's method of one argument: the list behind it, what is told -/
@[simp] def eM1 (op : List PV → EV → Mem → Option (List PV × PV)) (f g : Sm EV) : Sm EV := fun M => (f M).bnd fun x M1 => match asLst M1 x with
  | none => .bad
  | some _ => (g M1).bnd fun y M2 => match mutAt M2 x with
    | some (.lst xs) => match op xs y M2 with
      | some (ys, p) => .ok (.v p) (mutPut x (.lst ys) M2)
      | none => .bad
    | _ => .bad
def M1Ok (X : Cx) (r : V → List V → Hp → VK → Prop) (op : List PV → EV → Mem → Option (List PV × PV)) : Prop := ∀ (E : Ent) (s : L2.St) (G : Gh) (M : Mem) (H H0 : Hp) (a : Addr) (us : List V) (xs ys : List PV) (y : EV) (v : V) (p : PV) (Q : VK), StRep X.K E G M s H →
  H a = some (.lst us) → us.length ≤ sizeLine → RepVs X.K G H xs us → RepE X.K E H0 G M s H y v → op xs y M = some (ys, p) → (∀ ws w, RepVs X.K G H ys ws → ws.length ≤ sizeLine → RepV X.K G H p w → Q w (upd H a (.lst ws))) → r (.ref a) [v] H Q
theorem tyL {K : PySem.W.Frag} {H : Hp} {a : Addr} {us : List V} (h : SqL K H a us) : tyV K "list" (.ref a) H := .inl ⟨rfl, us, h⟩
theorem tE_m1 {f g : Sm EV} {r : V → List V → Hp → VK → Prop} {op : List PV → EV → Mem → Option (List PV × PV)} (ok : M1Ok X r op) {s : L2.St} {H : Hp} {Q : VK} (h : tE X E W (eM1 op f g) s H Q) : tBM X.K "list" r (tE X E W f) (tCons (tE X E W g) tNil) s H Q := by
  obtain ⟨G, M, R, h⟩ := h
  refine tE_one R h fun G1 M1 H1 x u V1 R1 rx h1 => ?_
  split at h1
  · exact h1.elim
  · rename_i zs ez
    obtain ⟨b, bs, rfl, hb, _⟩ := lst_of R1 rx ez
    refine ⟨tyL hb, tE_one R1 h1 fun G2 M2 H2 y v V2 R2 ry h2 => ?_⟩
    split at h2
    · rename_i xs em
      obtain ⟨a, w, ea, h3, ⟨us, rfl, z, rr⟩, nf, wr⟩ := mut_ok R2 (rx.evo V2) em
      cases ea
      cases eo : op xs y M2 with
      | none => rw [eo] at h2; exact h2.elim
      | some q =>
        obtain ⟨ys, p⟩ := q
        rw [eo] at h2
        refine ok E s G2 M2 H2 H1 b us xs ys y v p Q R2 h3 z rr ry eo fun ws w rw' zw rp => ?_
        obtain ⟨R3, V3⟩ := wr (.lst ys) (.lst ws) ⟨ws, rfl, zw, rw'⟩
        exact h2 G2 _ V3 R3 w (RepV.mono V3.ext _ _ rp)
    · exact h2.elim
section
variable {o e : Expr} {f g : Sm EV} {apos cpos : Pos} {name : Str} {id : String}
theorem fe_m1 {r : V → List V → Hp → VK → Prop} {op : List PV → EV → Mem → Option (List PV × PV)} (slot : Slot "list" name id) (hty : typeOf (.builtin id) = pure (.type "method_descriptor")) (hm : MtR X id r) (ok : M1Ok X r op) (ho : FE X E W o f) (he : FE X E W e g)
    (hbase : attributeBase o name X.env (eval o X.env) = eval o X.env)
    (hfew : ((backTo cpos (starEach [e] X.env)).all (fun x => !x.1) && (backToKw cpos (keywordEach [] X.env)).all (fun x => x.1.isSome)
      && decide ([e].length + ([] : List Keyword).length + (if ([] : List Keyword).isEmpty then 0 else 1) < 30)) = true)
    (hline : (apos.endLine == cpos.line) = true) (hs : starEach [e] X.env = (false, eval e X.env) :: starEach [] X.env) : FE X E W (.Call (.Attribute o name apos) [e] [] cpos) (eM1 op f g) :=
  ⟨PE.weak (pe_bm PySem.F.plainAttrs_list slot hty hm ho.pe (pa_cons he.pe pa_nil hs) hbase hfew hline hs) fun _ _ _ h => tE_m1 ok h⟩
end
/-- a value beside: frozen or at once -/
@[simp] def evP (M : Mem) (y : EV) : Option PV := match y with
  | .v p => some p
  | _ => none
@[simp] def opApp : List PV → EV → Mem → Option (List PV × PV) := fun xs y M => match evP M y with
  | some p => if xs.length < sizeLine then some (xs ++ [p], .non) else none
  | none => none
theorem opApp_ok : M1Ok X rAppend opApp := by
  intro E s G M H H0 a us xs ys y v p Q R h z rr ry e q
  simp only [opApp] at e
  split at e
  · rename_i p' ep
    split at e
    · rename_i lt
      cases e
      cases y <;> simp only [evP] at ep <;> cases ep
      have lt' : us.length < sizeLine := by rw [← rr.length]; exact lt
      exact ⟨a, us, v, rfl, rfl, h, lt', q _ _ (rr.snoc ry) (by simp; omega) (by simp only [RepV])⟩
    · cases e
  · cases e
/-- extend, by a list that may be known -/
def rExtR : V → List V → Hp → VK → Prop := fun x vs H Q => ∃ l b xs zs, x = .ref l ∧ vs = [.ref b] ∧ H l = some (.lst xs) ∧ Rd H b (.lst zs) ∧ xs.length + zs.length ≤ sizeLine ∧ Q .non (upd H l (.lst (xs ++ zs)))
theorem mt_extR : MtR X "list.extend" rExtR := by
  intro pins s σ H x vs v us Q I rx rv h
  obtain ⟨l, b, xs, zs, rfl, rfl, hH, hB, hz, q⟩ := h
  cases rx
  obtain ⟨u, rfl, ru⟩ := rv.one
  cases ru
  obtain ⟨z, its, n, r, hl, e⟩ := I.lstM hH
  obtain ⟨z2, its2, n2, r2, e2⟩ : ObjOk X.prog X.w H s.heap b (.lst zs) := hB.ok I.hok
  have hl2 := r2.length
  have hsz : its.toArray.size + its2.toArray.size ≤ sizeLine := by rw [List.size_toArray, List.size_toArray]; omega
  have hlong : ¬ (!its.toArray.isEmpty && Builtin.List.listTooLong (its.toArray.size + its2.toArray.size)) = true := by
    rw [notLongL hsz, Bool.and_false]; exact Bool.false_ne_true
  refine call_meets F.slot_list_extend ⟨_, e, rfl⟩ F.entry_list_extend (F.args_list_extend_2 _ _) (AutoSeq1.list_extend_list_list_0 l its.toArray n b its2.toArray n2 hlong (by rw [List.size_toArray]; omega) (by omega)) ⟨e, e2, ?_⟩
  exact ⟨.non, _, I.lset (its' := its ++ its2) hH e (by simp) (r.append r2) (by rw [List.length_append]; omega), rfl, q⟩
@[simp] def opExt : List PV → EV → Mem → Option (List PV × PV) := fun xs y M => match asLstR M y with
  | some zs => if xs.length + zs.length ≤ sizeLine then some (xs ++ zs, .non) else none
  | none => none
theorem opExt_ok : M1Ok X rExtR opExt := by
  intro E s G M H H0 a us xs ys y v p Q R h z rr ry e q
  simp only [opExt] at e
  split at e
  · rename_i zs ez
    split at e
    · rename_i lt
      cases e
      obtain ⟨b, bs, rfl, hb, rb, zb⟩ := lstR_of R ry ez
      have l1 := rr.length
      have l2 := rb.length
      exact ⟨a, b, us, bs, rfl, rfl, h, hb, by omega, q _ _ (rr.append rb) (by rw [List.length_append]; omega) (by simp only [RepV])⟩
    · cases e
  · cases e
/-- pop(i) -/
@[simp] def opPopAt : List PV → EV → Mem → Option (List PV × PV) := fun xs y _ => match y with
  | .v (.int i) => if decide (i.natAbs < 2 ^ 62) = true then (match seqIndex? i xs.length with
    | some k => (xs[k]?).map fun p => (xs.eraseIdx k, p)
    | none => none) else none
  | _ => none
theorem opPopAt_ok : M1Ok X rPopAt opPopAt := by
  intro E s G M H H0 a us xs ys y v p Q R h z rr ry e q
  simp only [opPopAt] at e
  split at e
  · rename_i i
    split at e
    · rename_i hi
      have hi := of_decide_eq_true hi
      split at e
      · rename_i j ej
        cases e1 : xs[j]? with
        | none => rw [e1] at e; cases e
        | some p' =>
          rw [e1] at e; cases e
          obtain ⟨w, e2, rw'⟩ := rr.get e1
          rw [rr.length] at ej
          exact ⟨a, us, i, j, w, rfl, by rw [repE_int ry], h, by omega, by omega, ej, e2, q _ _ (rr.eraseIdx j) (Nat.le_trans (len_erase _ _) z) rw'⟩
      · cases e
    · cases e
  · cases e
section
variable {o e : Expr} {f g : Sm EV} {apos cpos : Pos}
end
end
end HF

end
section
set_option Elab.async false
set_option linter.all false
set_option maxRecDepth 20000
set_option autoImplicit false
/-! HF11: the methods by name; stores by subscript; join; a law's end. -/
namespace HF
open PySem PySem.Spec PyProof.Rows L2
section
variable {X : Cx} {E : Ent} {W : WX} {N : List Str} {sc : Scope} {fs : Str → Bool} {k : Nat} {Z : Wd}
section
variable {o e : Expr} {f g : Sm EV} {h : Sm PV} {apos cpos : Pos}
@[simp] def pV (f : Sm PV) : Sm EV := fun M => (f M).bnd fun p M1 => .ok (.v p) M1
theorem fe_append (ho : FE X E W o f) (he : FP X E W e h) (hbase : attributeBase o "append" X.env (eval o X.env) = eval o X.env := by rfl)
    (hfew : ((backTo cpos (starEach [e] X.env)).all (fun x => !x.1) && (backToKw cpos (keywordEach [] X.env)).all (fun x => x.1.isSome) && decide ([e].length + ([] : List Keyword).length + (if ([] : List Keyword).isEmpty then 0 else 1) < 30)) = true := by rfl)
    (hline : (apos.endLine == cpos.line) = true := by rfl) (hs : starEach [e] X.env = (false, eval e X.env) :: starEach [] X.env := by rfl) : FE X E W (.Call (.Attribute o "append" apos) [e] [] cpos) (eM1 opApp f (pV h)) :=
  fe_m1 PySem.F.slot_list_append PySem.F.type_list_append mt_append opApp_ok ho he.fe hbase hfew hline hs
theorem fe_extend (ho : FE X E W o f) (he : FE X E W e g) (hbase : attributeBase o "extend" X.env (eval o X.env) = eval o X.env := by rfl)
    (hfew : ((backTo cpos (starEach [e] X.env)).all (fun x => !x.1) && (backToKw cpos (keywordEach [] X.env)).all (fun x => x.1.isSome) && decide ([e].length + ([] : List Keyword).length + (if ([] : List Keyword).isEmpty then 0 else 1) < 30)) = true := by rfl)
    (hline : (apos.endLine == cpos.line) = true := by rfl) (hs : starEach [e] X.env = (false, eval e X.env) :: starEach [] X.env := by rfl) : FE X E W (.Call (.Attribute o "extend" apos) [e] [] cpos) (eM1 opExt f g) :=
  fe_m1 PySem.F.slot_list_extend PySem.F.type_list_extend mt_extR opExt_ok ho he hbase hfew hline hs
theorem fe_popAt (ho : FE X E W o f) (he : FE X E W e g) (hbase : attributeBase o "pop" X.env (eval o X.env) = eval o X.env := by rfl)
    (hfew : ((backTo cpos (starEach [e] X.env)).all (fun x => !x.1) && (backToKw cpos (keywordEach [] X.env)).all (fun x => x.1.isSome) && decide ([e].length + ([] : List Keyword).length + (if ([] : List Keyword).isEmpty then 0 else 1) < 30)) = true := by rfl)
    (hline : (apos.endLine == cpos.line) = true := by rfl) (hs : starEach [e] X.env = (false, eval e X.env) :: starEach [] X.env := by rfl) : FE X E W (.Call (.Attribute o "pop" apos) [e] [] cpos) (eM1 opPopAt f g) :=
  fe_m1 PySem.F.slot_list_pop PySem.F.type_list_pop mt_popAt opPopAt_ok ho he hbase hfew hline hs
/-- pop() -/
@[simp] def ePop (f : Sm EV) : Sm EV := fun M => (f M).bnd fun x M1 => match mutAt M1 x with
  | some (.lst xs) => match xs[xs.length - 1]? with
    | some p => .ok (.v p) (mutPut x (.lst xs.dropLast) M1)
    | none => .bad
  | _ => .bad
theorem fe_pop (ho : FE X E W o f) (hbase : attributeBase o "pop" X.env (eval o X.env) = eval o X.env := by rfl) (hline : (apos.endLine == cpos.line) = true := by rfl) : FE X E W (.Call (.Attribute o "pop" apos) [] [] cpos) (ePop f) := by
  refine ⟨PE.weak (pe_bm0 PySem.F.plainAttrs_list PySem.F.slot_list_pop PySem.F.type_list_pop mt_pop ho.pe hbase hline) ?_⟩
  rintro s H Q ⟨G, M, R, h⟩
  refine tE_one R h fun G1 M1 H1 x u V1 R1 rx h1 => ?_
  split at h1
  · rename_i xs em
    obtain ⟨a, w, rfl, h3, ⟨us, rfl, z, rr⟩, nf, wr⟩ := mut_ok R1 rx em
    split at h1
    · rename_i p ep
      obtain ⟨w, e2, rw'⟩ := rr.get ep
      rw [rr.length] at e2
      obtain ⟨R3, V3⟩ := wr (.lst xs.dropLast) (.lst us.dropLast) ⟨_, rfl, by simp; omega, rr.dropLast⟩
      exact ⟨tyL (SqL.of h3), a, us, w, rfl, rfl, h3, e2, h1 G1 _ V3 R3 w (RepV.mono V3.ext _ _ rw')⟩
    · exact h1.elim
  · exact h1.elim
/-- sep.join(texts) -/
@[simp] def strsIn (M : Mem) (y : EV) : Option (List Str) := match y with
  | .v (.tup xs) => asStrs xs
  | y => (asLst M y).bind asStrs
@[simp] def eJoin (f g : Sm EV) : Sm EV := fun M => (f M).bnd fun x M1 => match x with
  | .v (.str a) => (g M1).bnd fun y M2 => match strsIn M2 y with
    | some ys => if (ys.map (·.length)).sum + ys.length * a.length ≤ 16777216 then .ok (.v (.str (Txt.join a ys))) M2 else .bad
    | none => .bad
  | _ => .bad
theorem repE_strI {E : Ent} {H0 : Hp} {G : Gh} {M : Mem} {s : L2.St} {H : Hp} {z : Str} : RepE X.K E H0 G M s H (.v (.str z)) (.str z) := show RepV X.K G H (.str z) _ by simp only [RepV]
theorem fe_join (ho : FE X E W o f) (he : FE X E W e g) (hs : starEach [e] X.env = [(false, eval e X.env)] := by rfl) (hbase : attributeBase o "join" X.env (eval o X.env) = eval o X.env := by rfl) (hline : (apos.endLine == cpos.line) = true := by rfl) : FE X E W (.Call (.Attribute o "join" apos) [e] [] cpos) (eJoin f g) := by
  refine ⟨PE.weak (pe_join ho.pe he.pe hs hbase hline) ?_⟩
  rintro s H Q ⟨G, M, R, h⟩
  refine tE_one R h fun G1 M1 H1 x u V1 R1 rx h1 => ?_
  split at h1
  · rename_i a
    have eu := repE_str rx
    subst eu
    refine ⟨⟨a, rfl⟩, tE_one R1 h1 fun G2 M2 H2 y v V2 R2 ry h2 => ?_⟩
    split at h2
    · rename_i ys ey
      split at h2
      · rename_i hz
        have fin := OutP.now h2 R2 _ repE_strI
        simp only [strsIn] at ey
        split at ey
        · obtain ⟨b, us, rfl, hb, rb, zb⟩ := repE_tup ry
          have eu := asStrs_rep ey rb
          subst eu
          exact ⟨a, b, ys, rfl, rfl, .inr hb, hz, fin⟩
        · cases e1 : asLst M2 y with
          | none => rw [e1] at ey; cases ey
          | some xs =>
            rw [e1] at ey
            obtain ⟨b, us, rfl, hb, rb, zb⟩ := lst_of R2 ry e1
            have eu := asStrs_rep ey rb
            subst eu
            exact ⟨a, b, ys, rfl, rfl, .inl hb, hz, fin⟩
      · exact h2.elim
    · exact h2.elim
  · exact h1.elim
end

/-! ### o[i] = value -/
def dPutV : List Key → List PV → Key → PV → List PV
  | q :: ks, x :: xs, k, p => (if q = k then p else x) :: dPutV ks xs k p
  | _, _, _, _ => []
def dStore (ks : List Key) (xs : List PV) (k : Key) (p : PV) : List Key × List PV := if (ks.any fun q => decide (q = k)) = true then (ks, dPutV ks xs k p) else (ks ++ [k], xs ++ [p])
theorem dPutV_rep {K : PySem.W.Frag} {G : Gh} {H : Hp} {k : Key} {p : PV} {v : V} (rp : RepV K G H p v) : ∀ {kvs : List (Key × V)} {xs : List PV}, RepVs K G H xs (kvs.map (·.2)) →
    RepVs K G H (dPutV (kvs.map (·.1)) xs k p) ((kvs.map fun kv => if kv.1 = k then (kv.1, v) else kv).map (·.2))
  | [], xs, r => by simpa [dPutV] using RepVs.nil
  | (q, w) :: kvs, xs, r => by
    cases xs with
    | nil => have := r.length; simp at this
    | cons x xs =>
      obtain ⟨u, us, e2, r1, r2⟩ := RepVs.cons_iff.mp r
      cases e2
      simp only [List.map_cons, dPutV]
      by_cases h : q = k
      · rw [if_pos h, if_pos h]; exact RepVs.cons rp (dPutV_rep rp r2)
      · rw [if_neg h, if_neg h]; exact RepVs.cons r1 (dPutV_rep rp r2)
theorem dStore_rep {K : PySem.W.Frag} {G : Gh} {H : Hp} {k : Key} {p : PV} {v : V} {kvs : List (Key × V)} {xs : List PV} (rp : RepV K G H p v) (r : RepVs K G H xs (kvs.map (·.2))) (z : kvs.length < sizeLine) :
    RepO K G H (.dct (dStore (kvs.map (·.1)) xs k p).1 (dStore (kvs.map (·.1)) xs k p).2) (.dK (putK kvs k v)) := by
  have ek : ((kvs.map (·.1)).any fun q => decide (q = k)) = kvs.any fun kv => decide (kv.1 = k) := by rw [List.any_map]; rfl
  refine ⟨_, rfl, Nat.le_trans (length_putK kvs k v) z, ?_, ?_⟩
  · unfold putK dStore
    rw [ek]
    by_cases h' : (kvs.any fun kv => decide (kv.1 = k)) = true
    · rw [if_pos h', if_pos h', List.map_map]
      apply List.map_congr_left
      intro a _
      simp only [Function.comp]
      split <;> rfl
    · rw [if_neg h', if_neg h']
      simp
  · unfold putK dStore
    rw [ek]
    by_cases h' : (kvs.any fun kv => decide (kv.1 = k)) = true
    · rw [if_pos h', if_pos h']
      exact dPutV_rep rp r
    · rw [if_neg h', if_neg h', List.map_append]
      exact r.snoc rp
def rSetA : V → V → V → Hp → (Hp → Prop) → Prop := fun o i v H Q => rSetL o i v H Q ∨ ∃ a H4, o = .ref a ∧ DPut H a i v H4 ∧ Q H4
theorem set_any (hu : X.A.units + 1 < cLine) : PSet X rSetA := by
  intro pins s σ H o i v ov iv u Q I ro ri rv h
  rcases h with h | ⟨a, H4, rfl, g, q⟩
  · exact set_list pins s σ H o i v ov iv u Q I ro ri rv h
  · cases ro
    exact d_setItem hu I g ri rv fun s4 I4 => ⟨H4, I4, q⟩
@[simp] def sSub (fv : Sm PV) (fo fi : Sm EV) : Ss := fun M => (fv M).st fun p M1 => (fo M1).st fun x M2 => (fi M2).st fun y M3 => match mutAt M3 x with
  | some (.lst xs) => match y with
    | .v (.int i) => match ixN xs.length i with
      | some j => .nx (mutPut x (.lst (xs.set j p)) M3)
      | none => .bad
    | _ => .bad
  | some (.dct ks xs) => match keyOf y with
    | some q => if ks.length < sizeLine then .nx (mutPut x (.dct (dStore ks xs q p).1 (dStore ks xs q p).2) M3) else .bad
    | none => .bad
  | _ => .bad
theorem fs_sub (A : Amb Z X W N sc fs k) {o i e : Expr} {fv : Sm PV} {fo fi : Sm EV} {pos p2 : Pos} (he : FP X E W e fv) (ho : FE X E W o fo) (hi : FE X E W i fi) (hg : PSet X rSetA → PG X (.Subscript o i p2) (gSub (tE X E W fo) (tE X E W fi) rSetA))
    (hs : swapsWithSole [.Subscript o i p2] e pos.line X.env = pure false := by rfl) (hw : swappedStores [.Subscript o i p2] e X.env = pure none := by rfl) (h1 : (assignEach [.Subscript o i p2] X.env).map (·.2) = [assign (.Subscript o i p2) X.env] := by rfl) :
    FS X E W (.Assign [.Subscript o i p2] e pos) (sSub fv fo fi) := by
  refine ⟨PS.weak (ps_asg he.pe (hg (set_any A.u1)) hs hw h1) ?_⟩
  rintro D s H ⟨G, M, R, h⟩
  refine tP_st R h fun G1 M1 H1 p u V1 R1 rp q => ?_
  refine tE_st R1 q fun G2 M2 H2 x v V2 R2 rx q2 => ?_
  refine tE_st R2 q2 fun G3 M3 H3 y w V3 R3 ry q3 => ?_
  have rp3 := RepV.mono (V2.trans V3).ext _ _ rp
  split at q3
  · rename_i xs em
    obtain ⟨a, t, rfl, h3, ⟨us, rfl, z, rr⟩, nf, wr⟩ := mut_ok R3 (rx.evo V3) em
    split at q3
    · rename_i j
      split at q3
      · rename_i n en
        rw [rr.length] at en
        obtain ⟨R4, V4⟩ := wr (.lst (xs.set n p)) (.lst (us.set n u)) ⟨_, rfl, by simpa using z, rr.set n rp3⟩
        exact .inl ⟨a, us, j, n, rfl, repE_int ry, h3, en, q3 G3 s _ V4.ext R4⟩
      · exact q3.elim
    · exact q3.elim
  · rename_i ks xs em
    obtain ⟨a, t, rfl, h3, ⟨kvs, rfl, z, hk, rr⟩, nf, wr⟩ := mut_ok R3 (rx.evo V3) em
    split at q3
    · rename_i q eq
      split at q3
      · rename_i lt
        subst hk
        have lt' : kvs.length < sizeLine := by simpa using lt
        obtain ⟨R4, V4⟩ := wr _ _ (dStore_rep rp3 rr lt' (k := q))
        refine .inr ⟨a, _, rfl, ?_, q3 G3 s _ V4.ext R4⟩
        rw [key_rep ry eq]
        exact DPut.k h3 lt'
      · exact q3.elim
    · exact q3.elim
  · exact q3.elim
end

/-! ### a law's end -/
theorem law_sp {K : PySem.W.Frag} {mg : Str → Option Value} {φ : Fn} (hφ : ∀ ns : List Int, ns.length ≤ 63 → ∃ h', φ [.rol (ns.map .int)] [] = .ok (.v (.bl true)) h') (H : Hp) (a : Addr) (ns : List Int) (hn : ns.length ≤ 63) (hS : SqL K H a (ns.map V.int)) :
    spOf K mg φ [.ref a] H (fun v _ => v = .bl true) fun _ _ _ => False := by
  obtain ⟨h', e⟩ := hφ ns hn
  have reps : ∀ ms : List Int, RepVs K ⟨fun b => b = a ∧ H b ≠ none, []⟩ H (ms.map .int) (ms.map V.int) := fun ms => by
    induction ms with
    | nil => exact RepVs.nil
    | cons m ms ih => exact RepVs.cons (by simp only [RepV]) ih
  refine ⟨⟨fun b => b = a ∧ H b ≠ none, []⟩, [], [.rol (ns.map .int)], ⟨fun b hb => hb.2, List.nodup_nil, rfl, fun r b o hb => by simp at hb⟩, RepVs.cons ?_ RepVs.nil, ?_⟩
  · simp only [RepV]
    refine ⟨a, ns.map V.int, rfl, ⟨by rw [List.length_map, sizeLine_eq]; omega, ?_⟩, reps ns⟩
    rcases hS with h | h
    · refine .inl ⟨⟨rfl, fun z => ?_⟩, h⟩
      rcases h with h | ⟨o, h⟩ <;> (rw [z] at h; cases h)
    · exact .inr (.inr h)
  · rw [e]
    intro G' H' u _ _ ru
    have ru : RepV K G' H' (.bl true) u := ru
    simpa only [RepV] using ru
theorem CX_false {P : Program} {w : World} {H : Hp} {s : Shared} {e : Value} {s' : Shared} (h : L2.CX P w [] H s (fun _ _ _ => False) e s') : False := by
  obtain ⟨_, _, _, _, _, _, _, _, _, _, _, _, z⟩ := h
  exact z
end HF

end
section
set_option Elab.async false
set_option linter.all false
set_option maxRecDepth 20000
set_option autoImplicit false
/-! HF12: a def as the top has left it. -/
namespace HF
open PySem PySem.Spec PyProof.Rows L2
structure DefAt (Z : Wd) (x : Str) (st : Stmt) (ps : List Str) : Prop where
  ok : ∃ f fd, Fun Z.K x x st f fd ∧ Z.mg x = some (.ref f) ∧ Binds Z.K fd ps []
theorem DefAt.known {Z : Wd} {x : Str} {st : Stmt} {ps : List Str} {k : Nat} {φ : Fn} (h : DefAt Z x st ps) (d : ∀ f fd, Fun Z.K x x st f fd → FnOk Z.P Z.w Z.K Z.mg Z.base (L2.CX Z.P Z.w) k f fd ps (spOf Z.K Z.mg φ)) : Known Z k x [] φ := by
  obtain ⟨f, fd, F, m, b⟩ := h.ok
  exact ⟨f, fd, ps, [], [], d f fd F, m, F.kp, b, .nil, fun _ _ => RepVs.nil⟩
/-- nothing is promised without levels -/
theorem DefAt.none {Z : Wd} {x : Str} {st : Stmt} {ps : List Str} {k : Nat} (h : DefAt Z x st ps) : Known Z k x [] (fun _ _ => .bad) := by
  refine h.known fun f fd F => ⟨fun vs H Q Ex ⟨G, hh, p, _, _, z⟩ => z.elim, fun A outer s H args us vs Q Ex _ _ _ _ ⟨G, hh, p, _, _, z⟩ => z.elim⟩
structure StrAt (Z : Wd) (x : Str) (y : Str) : Prop where
  ok : ∃ t, Z.mg x = some (.str y t)
structure IntAt (Z : Wd) (x : Str) (y : Int) : Prop where
  ok : ∃ t, Z.mg x = some (.int y t)
/-! ### from the facts of the top -/
theorem defAt_mk {P : Program} {w : World} {K : PySem.W.Frag} {mg : Str → Option Value} {base h : Heap} {x : Str} {st : Stmt} {ps : List Str} {f : Addr} {oc kV doc pm cdv ct : Value} {od an : Option Addr} {osl : Array (Option Value)}
    (X : K.In h) (G : h.Ns mainGlobals mg) (a : PySem.W.nsIn K mainGlobals x = some (some (.ref f)))
    (l : K.lookup f = some ⟨oc, od, .func (PySem.W.fnOf x x (defArgs st) (defBody st) (defScope st) .none kV doc pm an cdv ct), osl⟩)
    (c : PySem.W.codeIn K cdv x = true) (k : PySem.W.keepIn K (.ref f) = true)
    (hb : ∀ (kV doc pm : Value) (an : Option Addr) (cdv ct : Value) (us : List Value), us.length = ps.length → bindArgs (PySem.W.fnOf x x (defArgs st) (defBody st) (defScope st) .none kV doc pm an cdv ct) ⟨us, []⟩ = pure (ps.zip us)) : DefAt ⟨P, w, K, mg, base⟩ x st ps :=
  have F := fun_mk (st := st) l c k
  ⟨f, _, F, PySem.W.mg_of X G a, F.binds hb⟩
/-- a law's promise, whatever the module's names stand for -/
def spTop (K : PySem.W.Frag) (φ : Fn) : Sp := fun vs H Q Ex => ∀ mg, spOf K mg φ vs H Q Ex
end HF

end
section
set_option Elab.async false
set_option linter.all false
set_option maxRecDepth 20000
set_option autoImplicit false
namespace HF
open PySem PySem.Spec PyProof.Rows L2
noncomputable def b_inner_terms : Ss := sSeq (sIf (b2 cpEq (e2 opIx (eVar 0) (eC (.int 0))) (eC (.str "name"))) (sRet (eLst aNil)) sNop) (sSeq (sIf (b2 cpEq (e2 opIx (eVar 0) (eC (.int 0))) (eC (.str "sign"))) (sRet (e1 opLst (e2 opIx (eVar 0) (eC (.int 2))))) sNop) (sRet (eLc (srcOf (e2 opIx (eVar 0) (eC (.int 2)))) (.nm 1) [1] bYes (toP (eTup (aCons (toP (eC (.int 0))) (aCons (toP (eVar 1)) aNil)))))))
noncomputable def f_inner_terms : Fn := runDef 1 2 b_inner_terms
noncomputable def b_least_scope (r_least_scope : Fn) : Ss := sSeq (sIf (b2 cpEq (e2 opIx (eVar 0) (eC (.int 0))) (eC (.str "name"))) (sRet (e2 opAdd (e2 opIx (eVar 0) (eC (.int 1))) (eC (.int 1)))) sNop) (sRet (e1 opMax1 (e2 opAdd (eLc (srcOf (eCall f_inner_terms [] (aCons (toP (eVar 0)) aNil))) (.tp [1, 2]) [1, 2] bYes (toP (e2 opSub (eCall r_least_scope [] (aCons (toP (eVar 2)) aNil)) (eVar 1)))) (eLst (aCons (toP (eC (.int 0))) aNil)))))
noncomputable def f_least_scope : Nat → Fn
  | 0 => fun _ _ => .bad
  | n + 1 => runDef 1 3 (b_least_scope (f_least_scope n))
noncomputable def b_law_cell_at : Ss := sSeq (sIf (b2 cpLt (eVar 1) (e1 opLen (eVar 0))) (sRet (e2 opIx (eVar 0) (eVar 1))) sNop) (sRet (eC (.int 0)))
noncomputable def f_law_cell_at : Fn := runDef 2 2 b_law_cell_at
noncomputable def b_law_mix : Ss := sSeq (sSet 2 (toP (e2 opMod (e2 opMul (e2 opAdd (e2 opMod (eVar 0) (e2 opPow (eC (.int 10)) (eC (.int 60)))) (eC (.int 1))) (e2 opAdd (eC (.int 48271)) (e2 opMul (eC (.int 130)) (eVar 1)))) (eC (.int 2147483647))))) (sRet (e2 opMod (e2 opMul (eVar 2) (eVar 2)) (eC (.int 2147483629))))
noncomputable def f_law_mix : Fn := runDef 2 3 b_law_mix
noncomputable def b_law_words : Ss := sSeq (sSet 2 (toP (eC (.str "abcdefghijklmnopqrstuvwxyz")))) (sSeq (sSet 3 (toP (e2 opAdd (eC (.int 2)) (e2 opMod (eCall f_law_mix [] (aCons (toP (eVar 0)) (aCons (toP (eC (.int 1))) aNil))) (eC (.int 7)))))) (sSeq (sSet 4 (toP (eJoin (eC (.str "")) (eLc (srcR1 (aCons (toP (eVar 3)) aNil)) (.nm 7) [7] bYes (toP (e2 opIx (eVar 2) (e2 opMod (eCall f_law_mix [] (aCons (toP (eVar 0)) (aCons (toP (e2 opAdd (eC (.int 2)) (eVar 7))) aNil))) (eC (.int 26))))))))) (sSeq (sSet 5 (toP (e2 opMod (eCall f_law_mix [] (aCons (toP (eVar 0)) (aCons (toP (eC (.int 11))) aNil))) (eVar 3)))) (sSeq (sSet 6 (toP (e2 opMod (eCall f_law_mix [] (aCons (toP (eVar 0)) (aCons (toP (eC (.int 12))) aNil))) (eC (.int 26))))) (sRet (eLc (srcR1 (aCons (toP (eVar 1)) aNil)) (.nm 7) [7] bYes (toP (e2 opAdd (e2 opAdd (eSl (eVar 4) oNo (oSome (eVar 5))) (e2 opIx (eVar 2) (e2 opMod (e2 opAdd (eVar 6) (e2 opMul (eC (.int 7)) (eVar 7))) (eC (.int 26))))) (eSl (eVar 4) (oSome (e2 opAdd (eVar 5) (eC (.int 1)))) oNo)))))))))
noncomputable def f_law_words : Fn := runDef 2 8 b_law_words
noncomputable def b_law_free : Ss := sSeq (sIf (b2 cpEq (e2 opMod (eVar 0) (eC (.int 2))) (eC (.int 0))) (sRet (e2 opMod (e2 opDiv (eVar 0) (eC (.int 2))) (e2 opPow (eC (.int 10)) (eC (.int 60))))) sNop) (sRet (eCall f_law_mix [] (aCons (toP (e2 opDiv (eVar 0) (eC (.int 2)))) (aCons (toP (eVar 1)) aNil))))
noncomputable def f_law_free : Fn := runDef 2 2 b_law_free
noncomputable def b_law_leaf : Ss := sSeq (sIf (bAnd (b2 cpGt (eVar 1) (eC (.int 0))) (b2 cpLt (e2 opMod (eVar 0) (eC (.int 3))) (eC (.int 2)))) (sRet (eTup (aCons (toP (eC (.str "name"))) (aCons (toP (e2 opMod (e2 opDiv (eVar 0) (eC (.int 3))) (eVar 1))) aNil)))) sNop) (sRet (eTup (aCons (toP (eC (.str "sign"))) (aCons (toP (e2 opIx (eVar 2) (e2 opMod (e2 opDiv (eVar 0) (eC (.int 3))) (eC (.int 2))))) (aCons (toP (eTup aNil)) aNil)))))
noncomputable def f_law_leaf : Fn := runDef 3 3 b_law_leaf
noncomputable def b_law_term_1 (r_law_term : Fn) : Ss := sSeq (sPat (.tp [13, 6]) (toP (eCall r_law_term [] (aCons (toP (eVar 6)) (aCons (toP (eVar 1)) (aCons (toP (eVar 2)) (aCons (toP (eVar 3)) (aCons (toP (e2 opSub (eVar 4) (eC (.int 1)))) aNil)))))))) (sExp (eM1 opApp (eVar 10) (pV (toP (eVar 13)))))
noncomputable def b_law_term_2 (r_law_term : Fn) : Ss := sSeq (sSet 11 (toP (e2 opIx (eLst (aCons (toP (eC (.int 0))) (aCons (toP (eC (.int 0))) (aCons (toP (eC (.int 1))) (aCons (toP (eC (.int 2))) aNil))))) (e2 opMod (e2 opDiv (eVar 5) (e2 opIx (eLst (aCons (toP (eC (.int 12))) (aCons (toP (eC (.int 48))) (aCons (toP (eC (.int 192))) aNil)))) (eVar 9))) (eC (.int 4)))))) (sSeq (sPat (.tp [13, 6]) (toP (eCall r_law_term [] (aCons (toP (eVar 6)) (aCons (toP (e2 opAdd (eVar 1) (eVar 11))) (aCons (toP (eVar 2)) (aCons (toP (eVar 3)) (aCons (toP (e2 opSub (eVar 4) (eC (.int 1)))) aNil)))))))) (sExp (eM1 opApp (eVar 8) (pV (toP (eTup (aCons (toP (eVar 11)) (aCons (toP (eVar 13)) aNil))))))))
noncomputable def b_law_term (r_law_term : Fn) : Ss := sSeq (sIf (bOr (b2 cpEq (eVar 0) (eLst aNil)) (b2 cpEq (eVar 4) (eC (.int 0)))) (sRet (eTup (aCons (toP (eCall f_law_leaf [] (aCons (toP (eCall f_law_free [] (aCons (toP (e1 opSum (eSl (eVar 0) oNo (oSome (eC (.int 1)))))) (aCons (toP (eC (.int 0))) aNil)))) (aCons (toP (eVar 1)) (aCons (toP (eVar 2)) aNil))))) (aCons (toP (eSl (eVar 0) (oSome (eC (.int 1))) oNo)) aNil)))) sNop) (sSeq (sSet 5 (toP (eCall f_law_free [] (aCons (toP (e2 opIx (eVar 0) (eC (.int 0)))) (aCons (toP (eC (.int 1))) aNil))))) (sSeq (sSet 6 (toP (eSl (eVar 0) (oSome (eC (.int 1))) oNo))) (sSeq (sSet 7 (toP (e2 opMod (eVar 5) (eC (.int 8))))) (sSeq (sSet 5 (toP (e2 opDiv (eVar 5) (eC (.int 8))))) (sSeq (sIf (b2 cpLt (eVar 7) (eC (.int 2))) (sRet (eTup (aCons (toP (eCall f_law_leaf [] (aCons (toP (eVar 5)) (aCons (toP (eVar 1)) (aCons (toP (eVar 2)) aNil))))) (aCons (toP (eVar 6)) aNil)))) sNop) (sSeq (sIf (bAnd (b2 cpLt (eVar 7) (eC (.int 4))) (b2 cpNe (eVar 3) (eLst aNil))) (sSeq (sPat (.tp [12, 11]) (toP (e2 opIx (eVar 3) (e2 opMod (eVar 5) (e1 opLen (eVar 3)))))) (sSeq (sOwn 10 (eLst aNil)) (sSeq (sForIn (srcR1 (aCons (toP (eVar 11)) aNil)) (.nm 9) (b_law_term_1 r_law_term) [9, 13]) (sRet (eTup (aCons (toP (eTup (aCons (toP (eC (.str "hole"))) (aCons (toP (eVar 12)) (aCons (toP (e1 opTupOf (eVar 10))) aNil))))) (aCons (toP (eVar 6)) aNil))))))) sNop) (sSeq (sOwn 8 (eLst aNil)) (sSeq (sForIn (srcR1 (aCons (toP (e2 opAdd (eC (.int 1)) (e2 opMod (eVar 5) (eC (.int 3))))) aNil)) (.nm 9) (b_law_term_2 r_law_term) [9, 11, 13]) (sRet (eTup (aCons (toP (eTup (aCons (toP (eC (.str "sign"))) (aCons (toP (e2 opIx (eVar 2) (e2 opAdd (eC (.int 2)) (e2 opMod (e2 opMod (e2 opDiv (eVar 5) (eC (.int 3))) (eC (.int 4))) (eC (.int 3)))))) (aCons (toP (e1 opTupOf (eVar 8))) aNil))))) (aCons (toP (eVar 6)) aNil))))))))))))
noncomputable def f_law_term : Nat → Fn
  | 0 => fun _ _ => .bad
  | n + 1 => runDef 5 14 (b_law_term (f_law_term n))
noncomputable def b_law_drawn : Ss := sSeq (sSet 3 (toP (eCall f_law_words [] (aCons (toP (eVar 2)) (aCons (toP (eC (.int 9))) aNil))))) (sSeq (sSet 4 (toP (eLc (srcR1 (aCons (toP (eC (.int 4))) aNil)) (.nm 5) [5] bYes (toP (eTup (aCons (toP (e2 opIx (eVar 3) (e2 opAdd (eC (.int 5)) (eVar 5)))) (aCons (toP (eVar 5)) aNil))))))) (sRet (e2 opIx (eCall (f_law_term 6) [] (aCons (toP (eSl (eVar 0) oNo (oSome (eC (.int 12))))) (aCons (toP (eVar 1)) (aCons (toP (eVar 3)) (aCons (toP (eVar 4)) (aCons (toP (eC (.int 4))) aNil)))))) (eC (.int 0)))))
noncomputable def f_law_drawn : Fn := runDef 3 6 b_law_drawn
noncomputable def b_law_inner : Ss := sSeq (sIf (b2 cpEq (e2 opIx (eVar 0) (eC (.int 0))) (eC (.str "name"))) (sRet (eLst aNil)) sNop) (sSeq (sIf (b2 cpEq (e2 opIx (eVar 0) (eC (.int 0))) (eC (.str "sign"))) (sRet (e1 opLst (e2 opIx (eVar 0) (eC (.int 2))))) sNop) (sRet (eLc (srcOf (e2 opIx (eVar 0) (eC (.int 2)))) (.nm 1) [1] bYes (toP (eTup (aCons (toP (eC (.int 0))) (aCons (toP (eVar 1)) aNil)))))))
noncomputable def f_law_inner : Fn := runDef 1 2 b_law_inner
noncomputable def b_law_reaches_1 : Ss := sExp (eM1 opApp (eVar 1) (pV (toP (eTup (aCons (toP (eVar 6)) (aCons (toP (e2 opAdd (eVar 4) (eVar 5))) aNil))))))
noncomputable def b_law_reaches_2 : Ss := sSeq (sPat (.tp [3, 4]) (toP (ePop (eVar 1)))) (sSeq (sIf (b2 cpEq (e2 opIx (eVar 3) (eC (.int 0))) (eC (.str "name"))) (sSet 2 (toP (e2 opMax2 (eVar 2) (e2 opSub (e2 opAdd (e2 opIx (eVar 3) (eC (.int 1))) (eC (.int 1))) (eVar 4))))) sNop) (sForIn (srcP (toP (eCall f_law_inner [] (aCons (toP (eVar 3)) aNil)))) (.tp [5, 6]) b_law_reaches_1 [5, 6]))
noncomputable def b_law_reaches : Ss := sSeq (sOwn 1 (eLst (aCons (toP (eTup (aCons (toP (eVar 0)) (aCons (toP (eC (.int 0))) aNil)))) aNil))) (sSeq (sSet 2 (toP (eC (.int 0)))) (sSeq (sWhile (b2 cpNe (eVar 1) (eLst aNil)) b_law_reaches_2 [3, 4, 5, 6] 100000000) (sRet (eVar 2))))
noncomputable def f_law_reaches : Fn := runDef 1 7 b_law_reaches
noncomputable def b_law_is : Ss := sRet (eAnd (e1 (opIsi "int") (eVar 0)) (eAnd (eB (bNot (bVal (e1 (opIsi "bool") (eVar 0))))) (eB (b2 cpEq (eVar 0) (eVar 1)))))
noncomputable def f_law_is : Fn := runDef 2 2 b_law_is
noncomputable def b_law_1 : Ss := sSeq (sSet 2 (toP (eCall f_law_cell_at [] (aCons (toP (eVar 0)) (aCons (toP (eVar 1)) aNil))))) (sSeq (sSet 3 (toP (eCall f_law_drawn [] (aCons (toP (eSl (eVar 0) (oSome (eVar 1)) oNo)) (aCons (toP (e2 opMod (eCall f_law_mix [] (aCons (toP (eVar 2)) (aCons (toP (eC (.int 40))) aNil))) (eC (.int 4)))) (aCons (toP (eVar 2)) aNil)))))) (sSeq (sSet 4 (toP (eCall f_law_reaches [] (aCons (toP (eVar 3)) aNil)))) (sSeq (sSet 5 (toP (e2 opMod (eCall f_law_mix [] (aCons (toP (eVar 2)) (aCons (toP (eC (.int 41))) aNil))) (eC (.int 6))))) (sSeq (sIf (bOr (bNot (bVal (eCall f_law_is [] (aCons (toP (eCall (f_least_scope 30) [] (aCons (toP (eVar 3)) aNil))) (aCons (toP (eVar 4)) aNil))))) (bNot (bVal (eCall f_law_is [] (aCons (toP (eCall (f_least_scope 30) [] (aCons (toP (eTup (aCons (toP (eC (.str "hole"))) (aCons (toP (eC (.str "h"))) (aCons (toP (eTup (aCons (toP (eVar 3)) (aCons (toP (eVar 3)) aNil)))) aNil))))) aNil))) (aCons (toP (eVar 4)) aNil)))))) (sRet (eC (.bl false))) sNop) (sIf (bNot (bVal (eCall f_law_is [] (aCons (toP (eCall (f_least_scope 30) [] (aCons (toP (eTup (aCons (toP (eC (.str "sign"))) (aCons (toP (eC (.str "s"))) (aCons (toP (eTup (aCons (toP (eTup (aCons (toP (eC (.int 0))) (aCons (toP (eTup (aCons (toP (eC (.str "sign"))) (aCons (toP (eC (.str "s"))) (aCons (toP (eTup aNil)) aNil))))) aNil)))) (aCons (toP (eTup (aCons (toP (eVar 5)) (aCons (toP (eVar 3)) aNil)))) aNil)))) aNil))))) aNil))) (aCons (toP (e2 opMax2 (eC (.int 0)) (e2 opSub (eVar 4) (eVar 5)))) aNil))))) (sRet (eC (.bl false))) sNop)))))
noncomputable def b_law : Ss := sSeq (sForIn (srcR3 (aCons (toP (eC (.int 0))) (aCons (toP (e2 opMax2 (eC (.int 1)) (e2 opMin2 (e1 opLen (eVar 0)) (eC (.int 63))))) (aCons (toP (eC (.int 6))) aNil)))) (.nm 1) b_law_1 [1, 2, 3, 4, 5]) (sRet (eC (.bl true)))
noncomputable def f_law : Fn := runDef 1 6 b_law
end HF

end
section
set_option Elab.async false
set_option linter.all false
set_option maxRecDepth 20000
set_option autoImplicit false
namespace HF
open PySem PySem.Spec PyProof.Rows L2
def top (i : Nat) : Stmt := PySem.Challenge.pw_holeform_k02_least_scope.main.body.getD i (.Pass ⟨0, 0, 0, 0⟩)
abbrev s_inner_terms : Stmt := top 1
abbrev s_least_scope : Stmt := top 2
abbrev s_law_cell_at : Stmt := top 4
abbrev s_law_mix : Stmt := top 5
abbrev s_law_words : Stmt := top 6
abbrev s_law_free : Stmt := top 7
abbrev s_law_leaf : Stmt := top 8
abbrev s_law_term : Stmt := top 9
abbrev s_law_drawn : Stmt := top 10
abbrev s_law_inner : Stmt := top 11
abbrev s_law_reaches : Stmt := top 12
abbrev s_law_is : Stmt := top 13
abbrev s_law : Stmt := top 14
structure Tops (Z : Wd) : Prop where
  t_inner_terms : DefAt Z "inner_terms" s_inner_terms ["term"]
  t_least_scope : DefAt Z "least_scope" s_least_scope ["term"]
  t_law_cell_at : DefAt Z "_law_cell_at" s_law_cell_at ["_law_script", "_law_k"]
  t_law_mix : DefAt Z "_law_mix" s_law_mix ["_law_cell", "_law_place"]
  t_law_words : DefAt Z "_law_words" s_law_words ["_law_cell", "_law_many"]
  t_law_free : DefAt Z "_law_free" s_law_free ["_law_cell", "_law_place"]
  t_law_leaf : DefAt Z "_law_leaf" s_law_leaf ["_law_number", "_law_scope", "_law_words_here"]
  t_law_term : DefAt Z "_law_term" s_law_term ["_law_cells", "_law_scope", "_law_words_here", "_law_holes", "_law_deep"]
  t_law_drawn : DefAt Z "_law_drawn" s_law_drawn ["_law_cells", "_law_scope", "_law_seed"]
  t_law_inner : DefAt Z "_law_inner" s_law_inner ["_law_term_here"]
  t_law_reaches : DefAt Z "_law_reaches" s_law_reaches ["_law_term_here"]
  t_law_is : DefAt Z "_law_is" s_law_is ["_law_found", "_law_due"]
  t_law : DefAt Z "law" s_law ["_law_script"]
  m_bool : Z.mg "bool" = none
  m_int : Z.mg "int" = none
  m_isinstance : Z.mg "isinstance" = none
  m_len : Z.mg "len" = none
  m_list : Z.mg "list" = none
  m_max : Z.mg "max" = none
  m_min : Z.mg "min" = none
  m_range : Z.mg "range" = none
  m_sum : Z.mg "sum" = none
  m_tuple : Z.mg "tuple" = none
abbrev n_inner_terms : List Str := ["term", "one"]
theorem sc_inner_terms : FnScope n_inner_terms ["term"] (defScope s_inner_terms) := ⟨rfl, rfl, rfl, by decide +kernel, rfl, by decide +kernel, by decide +kernel⟩
set_option maxHeartbeats 4000000 in
theorem d_inner_terms {Z : Wd} (T : Tops Z) : ∀ f fd, Fun Z.K "inner_terms" "inner_terms" s_inner_terms f fd → FnOk Z.P Z.w Z.K Z.mg Z.base (L2.CX Z.P Z.w) (0 + 1) f fd ["term"] (spOf Z.K Z.mg (runDef 1 2 (b_inner_terms))) := fun f fd F =>
  def_ok F sc_inner_terms fun X E W A => fss_cons (fs_if (ft_eq A (fe_ix A (fe_var A (i := 0) rfl rfl) fe_int) fe_str) (fss_one (fs_ret (fe_lst fl_nil))) fss_nil) (fss_cons (fs_if (ft_eq A (fe_ix A (fe_var A (i := 0) rfl rfl) fe_int) fe_str) (fss_one (fs_ret (fe_list A T.m_list (fe_ix A (fe_var A (i := 0) rfl rfl) fe_int)))) fss_nil) (fss_one (fs_ret (lc_rule A (own := [("one", 1)]) (fi_of (fe_ix A (fe_var A (i := 0) rfl rfl) fe_int)) (by decide +kernel) (by decide) (fun _ A' => fg_name A' (i := 1) rfl rfl) (fun _ A' => fts_nil) (fun _ A' => (fe_tup (fl_cons fe_int.toP (fl_cons ((fe_var A' (i := 1) rfl rfl).toP) fl_nil))).toP)))))
theorem k_inner_terms {Z : Wd} (T : Tops Z) : Known Z 1 "inner_terms" [] f_inner_terms := T.t_inner_terms.known (d_inner_terms T)
abbrev n_least_scope : List Str := ["term", "many", "inner"]
theorem sc_least_scope : FnScope n_least_scope ["term"] (defScope s_least_scope) := ⟨rfl, rfl, rfl, by decide +kernel, rfl, by decide +kernel, by decide +kernel⟩
set_option maxHeartbeats 4000000 in
theorem d_least_scope {Z : Wd} {k : Nat} (T : Tops Z) {r_least_scope : Fn} (K_least_scope : Known Z k "least_scope" [] r_least_scope) (hk : 1 ≤ k) : ∀ f fd, Fun Z.K "least_scope" "least_scope" s_least_scope f fd → FnOk Z.P Z.w Z.K Z.mg Z.base (L2.CX Z.P Z.w) (k + 1) f fd ["term"] (spOf Z.K Z.mg (runDef 1 3 (b_least_scope r_least_scope))) := fun f fd F =>
  def_ok F sc_least_scope fun X E W A => fss_cons (fs_if (ft_eq A (fe_ix A (fe_var A (i := 0) rfl rfl) fe_int) fe_str) (fss_one (fs_ret (fe_add (fe_ix A (fe_var A (i := 0) rfl rfl) fe_int) fe_int))) fss_nil) (fss_one (fs_ret (fe_max1 A T.m_max (fe_add (lc_rule A (own := [("many", 1), ("inner", 2)]) (fi_of (fe_call A ((k_inner_terms T).mono (Nat.le_trans (by decide) hk)) (fl_cons ((fe_var A (i := 0) rfl rfl).toP) fl_nil))) (by decide +kernel) (by decide) (fun _ A' => fg_tup A' (fgs_cons (fg_name A' (i := 1) rfl rfl) (fgs_cons (fg_name A' (i := 2) rfl rfl) fgs_nil))) (fun _ A' => fts_nil) (fun _ A' => (fe_sub (fe_call A' K_least_scope (fl_cons ((fe_var A' (i := 2) rfl rfl).toP) fl_nil)) (fe_var A' (i := 1) rfl rfl)).toP)) (fe_lst (fl_cons fe_int.toP fl_nil))))))
theorem ks_least_scope {Z : Wd} (T : Tops Z) : ∀ n : Nat, Known Z (1 + n) "least_scope" [] (f_least_scope n)
  | 0 => T.t_least_scope.none
  | n + 1 => by
    have ih := ks_least_scope T n
    exact T.t_least_scope.known (d_least_scope T ih (Nat.le_add_right _ n))
theorem k_least_scope {Z : Wd} (T : Tops Z) : Known Z 31 "least_scope" [] (f_least_scope 30) := (ks_least_scope T 30)
abbrev n_law_cell_at : List Str := ["_law_script", "_law_k"]
theorem sc_law_cell_at : FnScope n_law_cell_at ["_law_script", "_law_k"] (defScope s_law_cell_at) := ⟨rfl, rfl, rfl, by decide +kernel, rfl, by decide +kernel, by decide +kernel⟩
set_option maxHeartbeats 4000000 in
theorem d_law_cell_at {Z : Wd} (T : Tops Z) : ∀ f fd, Fun Z.K "_law_cell_at" "_law_cell_at" s_law_cell_at f fd → FnOk Z.P Z.w Z.K Z.mg Z.base (L2.CX Z.P Z.w) (0 + 1) f fd ["_law_script", "_law_k"] (spOf Z.K Z.mg (runDef 2 2 (b_law_cell_at))) := fun f fd F =>
  def_ok F sc_law_cell_at fun X E W A => fss_cons (fs_if (ft_lt (fe_var A (i := 1) rfl rfl) (fe_len A T.m_len (fe_var A (i := 0) rfl rfl))) (fss_one (fs_ret (fe_ix A (fe_var A (i := 0) rfl rfl) (fe_var A (i := 1) rfl rfl)))) fss_nil) (fss_one (fs_ret fe_int))
theorem k_law_cell_at {Z : Wd} (T : Tops Z) : Known Z 1 "_law_cell_at" [] f_law_cell_at := T.t_law_cell_at.known (d_law_cell_at T)
abbrev n_law_mix : List Str := ["_law_cell", "_law_place", "_law_first"]
theorem sc_law_mix : FnScope n_law_mix ["_law_cell", "_law_place"] (defScope s_law_mix) := ⟨rfl, rfl, rfl, by decide +kernel, rfl, by decide +kernel, by decide +kernel⟩
set_option maxHeartbeats 4000000 in
theorem d_law_mix {Z : Wd} (T : Tops Z) : ∀ f fd, Fun Z.K "_law_mix" "_law_mix" s_law_mix f fd → FnOk Z.P Z.w Z.K Z.mg Z.base (L2.CX Z.P Z.w) (0 + 1) f fd ["_law_cell", "_law_place"] (spOf Z.K Z.mg (runDef 2 3 (b_law_mix))) := fun f fd F =>
  def_ok F sc_law_mix fun X E W A => fss_cons (fs_set A (i := 2) rfl rfl ((fe_mod (fe_mul (fe_add (fe_mod (fe_var A (i := 0) rfl rfl) (fe_pow fe_int fe_int)) fe_int) (fe_add fe_int (fe_mul fe_int (fe_var A (i := 1) rfl rfl)))) fe_int).toP)) (fss_one (fs_ret (fe_mod (fe_mul (fe_var A (i := 2) rfl rfl) (fe_var A (i := 2) rfl rfl)) fe_int)))
theorem k_law_mix {Z : Wd} (T : Tops Z) : Known Z 1 "_law_mix" [] f_law_mix := T.t_law_mix.known (d_law_mix T)
abbrev n_law_words : List Str := ["_law_cell", "_law_many", "_law_letters", "_law_length", "_law_stem", "_law_spot", "_law_first", "_law_k"]
theorem sc_law_words : FnScope n_law_words ["_law_cell", "_law_many"] (defScope s_law_words) := ⟨rfl, rfl, rfl, by decide +kernel, rfl, by decide +kernel, by decide +kernel⟩
set_option maxHeartbeats 4000000 in
theorem d_law_words {Z : Wd} (T : Tops Z) : ∀ f fd, Fun Z.K "_law_words" "_law_words" s_law_words f fd → FnOk Z.P Z.w Z.K Z.mg Z.base (L2.CX Z.P Z.w) (1 + 1) f fd ["_law_cell", "_law_many"] (spOf Z.K Z.mg (runDef 2 8 (b_law_words))) := fun f fd F =>
  def_ok F sc_law_words fun X E W A => fss_cons (fs_set A (i := 2) rfl rfl fe_str.toP) (fss_cons (fs_set A (i := 3) rfl rfl ((fe_add fe_int (fe_mod (fe_call A ((k_law_mix T).mono (by decide)) (fl_cons ((fe_var A (i := 0) rfl rfl).toP) (fl_cons fe_int.toP fl_nil))) fe_int)).toP)) (fss_cons (fs_set A (i := 4) rfl rfl ((fe_join fe_str (lc_rule A (own := [("_law_k", 7)]) (fi_range1 A (A.no T.m_range) (fl_cons ((fe_var A (i := 3) rfl rfl).toP) fl_nil)) (by decide +kernel) (by decide) (fun _ A' => fg_name A' (i := 7) rfl rfl) (fun _ A' => fts_nil) (fun _ A' => (fe_ix A' (fe_var A' (i := 2) rfl rfl) (fe_mod (fe_call A' ((k_law_mix T).mono (by decide)) (fl_cons ((fe_var A' (i := 0) rfl rfl).toP) (fl_cons ((fe_add fe_int (fe_var A' (i := 7) rfl rfl)).toP) fl_nil))) fe_int)).toP))).toP)) (fss_cons (fs_set A (i := 5) rfl rfl ((fe_mod (fe_call A ((k_law_mix T).mono (by decide)) (fl_cons ((fe_var A (i := 0) rfl rfl).toP) (fl_cons fe_int.toP fl_nil))) (fe_var A (i := 3) rfl rfl)).toP)) (fss_cons (fs_set A (i := 6) rfl rfl ((fe_mod (fe_call A ((k_law_mix T).mono (by decide)) (fl_cons ((fe_var A (i := 0) rfl rfl).toP) (fl_cons fe_int.toP fl_nil))) fe_int).toP)) (fss_one (fs_ret (lc_rule A (own := [("_law_k", 7)]) (fi_range1 A (A.no T.m_range) (fl_cons ((fe_var A (i := 1) rfl rfl).toP) fl_nil)) (by decide +kernel) (by decide) (fun _ A' => fg_name A' (i := 7) rfl rfl) (fun _ A' => fts_nil) (fun _ A' => (fe_add (fe_add (fe_slice (fe_var A' (i := 4) rfl rfl) fo_none (fo_some (fe_var A' (i := 5) rfl rfl))) (fe_ix A' (fe_var A' (i := 2) rfl rfl) (fe_mod (fe_add (fe_var A' (i := 6) rfl rfl) (fe_mul fe_int (fe_var A' (i := 7) rfl rfl))) fe_int))) (fe_slice (fe_var A' (i := 4) rfl rfl) (fo_some (fe_add (fe_var A' (i := 5) rfl rfl) fe_int)) fo_none)).toP))))))))
theorem k_law_words {Z : Wd} (T : Tops Z) : Known Z 2 "_law_words" [] f_law_words := T.t_law_words.known (d_law_words T)
abbrev n_law_free : List Str := ["_law_cell", "_law_place"]
theorem sc_law_free : FnScope n_law_free ["_law_cell", "_law_place"] (defScope s_law_free) := ⟨rfl, rfl, rfl, by decide +kernel, rfl, by decide +kernel, by decide +kernel⟩
set_option maxHeartbeats 4000000 in
theorem d_law_free {Z : Wd} (T : Tops Z) : ∀ f fd, Fun Z.K "_law_free" "_law_free" s_law_free f fd → FnOk Z.P Z.w Z.K Z.mg Z.base (L2.CX Z.P Z.w) (1 + 1) f fd ["_law_cell", "_law_place"] (spOf Z.K Z.mg (runDef 2 2 (b_law_free))) := fun f fd F =>
  def_ok F sc_law_free fun X E W A => fss_cons (fs_if (ft_eq A (fe_mod (fe_var A (i := 0) rfl rfl) fe_int) fe_int) (fss_one (fs_ret (fe_mod (fe_div (fe_var A (i := 0) rfl rfl) fe_int) (fe_pow fe_int fe_int)))) fss_nil) (fss_one (fs_ret (fe_call A ((k_law_mix T).mono (by decide)) (fl_cons ((fe_div (fe_var A (i := 0) rfl rfl) fe_int).toP) (fl_cons ((fe_var A (i := 1) rfl rfl).toP) fl_nil)))))
theorem k_law_free {Z : Wd} (T : Tops Z) : Known Z 2 "_law_free" [] f_law_free := T.t_law_free.known (d_law_free T)
abbrev n_law_leaf : List Str := ["_law_number", "_law_scope", "_law_words_here"]
theorem sc_law_leaf : FnScope n_law_leaf ["_law_number", "_law_scope", "_law_words_here"] (defScope s_law_leaf) := ⟨rfl, rfl, rfl, by decide +kernel, rfl, by decide +kernel, by decide +kernel⟩
set_option maxHeartbeats 4000000 in
theorem d_law_leaf {Z : Wd} (T : Tops Z) : ∀ f fd, Fun Z.K "_law_leaf" "_law_leaf" s_law_leaf f fd → FnOk Z.P Z.w Z.K Z.mg Z.base (L2.CX Z.P Z.w) (0 + 1) f fd ["_law_number", "_law_scope", "_law_words_here"] (spOf Z.K Z.mg (runDef 3 3 (b_law_leaf))) := fun f fd F =>
  def_ok F sc_law_leaf fun X E W A => fss_cons (fs_if ((fw_and (ft_gt (fe_var A (i := 1) rfl rfl) fe_int) (fw_and1 (ft_lt (fe_mod (fe_var A (i := 0) rfl rfl) fe_int) fe_int))).ft) (fss_one (fs_ret (fe_tup (fl_cons fe_str.toP (fl_cons ((fe_mod (fe_div (fe_var A (i := 0) rfl rfl) fe_int) (fe_var A (i := 1) rfl rfl)).toP) fl_nil))))) fss_nil) (fss_one (fs_ret (fe_tup (fl_cons fe_str.toP (fl_cons ((fe_ix A (fe_var A (i := 2) rfl rfl) (fe_mod (fe_div (fe_var A (i := 0) rfl rfl) fe_int) fe_int)).toP) (fl_cons ((fe_tup fl_nil).toP) fl_nil))))))
theorem k_law_leaf {Z : Wd} (T : Tops Z) : Known Z 1 "_law_leaf" [] f_law_leaf := T.t_law_leaf.known (d_law_leaf T)
abbrev n_law_term : List Str := ["_law_cells", "_law_scope", "_law_words_here", "_law_holes", "_law_deep", "_law_number", "_law_left", "_law_way", "_law_parts", "_law_k", "_law_some", "_law_many", "_law_word", "_law_one"]
theorem sc_law_term : FnScope n_law_term ["_law_cells", "_law_scope", "_law_words_here", "_law_holes", "_law_deep"] (defScope s_law_term) := ⟨rfl, rfl, rfl, by decide +kernel, rfl, by decide +kernel, by decide +kernel⟩
set_option maxHeartbeats 4000000 in
theorem d_law_term {Z : Wd} {k : Nat} (T : Tops Z) {r_law_term : Fn} (K_law_term : Known Z k "_law_term" [] r_law_term) (hk : 2 ≤ k) : ∀ f fd, Fun Z.K "_law_term" "_law_term" s_law_term f fd → FnOk Z.P Z.w Z.K Z.mg Z.base (L2.CX Z.P Z.w) (k + 1) f fd ["_law_cells", "_law_scope", "_law_words_here", "_law_holes", "_law_deep"] (spOf Z.K Z.mg (runDef 5 14 (b_law_term r_law_term))) := fun f fd F =>
  def_ok F sc_law_term fun X E W A => fss_cons (fs_if ((fw_or (ft_eq A (fe_var A (i := 0) rfl rfl) (fe_lst fl_nil)) (fw_or1 (ft_eq A (fe_var A (i := 4) rfl rfl) fe_int))).ft) (fss_one (fs_ret (fe_tup (fl_cons ((fe_call A ((k_law_leaf T).mono (Nat.le_trans (by decide) hk)) (fl_cons ((fe_call A ((k_law_free T).mono (Nat.le_trans (by decide) hk)) (fl_cons ((fe_sum A T.m_sum (fe_slice (fe_var A (i := 0) rfl rfl) fo_none (fo_some fe_int))).toP) (fl_cons fe_int.toP fl_nil))).toP) (fl_cons ((fe_var A (i := 1) rfl rfl).toP) (fl_cons ((fe_var A (i := 2) rfl rfl).toP) fl_nil)))).toP) (fl_cons ((fe_slice (fe_var A (i := 0) rfl rfl) (fo_some fe_int) fo_none).toP) fl_nil))))) fss_nil) (fss_cons (fs_set A (i := 5) rfl rfl ((fe_call A ((k_law_free T).mono (Nat.le_trans (by decide) hk)) (fl_cons ((fe_ix A (fe_var A (i := 0) rfl rfl) fe_int).toP) (fl_cons fe_int.toP fl_nil))).toP)) (fss_cons (fs_set A (i := 6) rfl rfl ((fe_slice (fe_var A (i := 0) rfl rfl) (fo_some fe_int) fo_none).toP)) (fss_cons (fs_set A (i := 7) rfl rfl ((fe_mod (fe_var A (i := 5) rfl rfl) fe_int).toP)) (fss_cons (fs_set A (i := 5) rfl rfl ((fe_div (fe_var A (i := 5) rfl rfl) fe_int).toP)) (fss_cons (fs_if (ft_lt (fe_var A (i := 7) rfl rfl) fe_int) (fss_one (fs_ret (fe_tup (fl_cons ((fe_call A ((k_law_leaf T).mono (Nat.le_trans (by decide) hk)) (fl_cons ((fe_var A (i := 5) rfl rfl).toP) (fl_cons ((fe_var A (i := 1) rfl rfl).toP) (fl_cons ((fe_var A (i := 2) rfl rfl).toP) fl_nil)))).toP) (fl_cons ((fe_var A (i := 6) rfl rfl).toP) fl_nil))))) fss_nil) (fss_cons (fs_if ((fw_and (ft_lt (fe_var A (i := 7) rfl rfl) fe_int) (fw_and1 (ft_ne A (fe_var A (i := 3) rfl rfl) (fe_lst fl_nil)))).ft) (fss_cons (fs_pat (fg_tup A (fgs_cons (fg_name A (i := 12) rfl rfl) (fgs_cons (fg_name A (i := 11) rfl rfl) fgs_nil))) ((fe_ix A (fe_var A (i := 3) rfl rfl) (fe_mod (fe_var A (i := 5) rfl rfl) (fe_len A T.m_len (fe_var A (i := 3) rfl rfl)))).toP)) (fss_cons (fs_own A (i := 10) rfl rfl (fe_lst fl_nil)) (fss_cons (fs_for A [9, 13] (fi_range1 A (A.no T.m_range) (fl_cons ((fe_var A (i := 11) rfl rfl).toP) fl_nil)) srcR1_ns (fg_name A (i := 9) rfl rfl) (fss_cons (fs_pat (fg_tup A (fgs_cons (fg_name A (i := 13) rfl rfl) (fgs_cons (fg_name A (i := 6) rfl rfl) fgs_nil))) ((fe_call A K_law_term (fl_cons ((fe_var A (i := 6) rfl rfl).toP) (fl_cons ((fe_var A (i := 1) rfl rfl).toP) (fl_cons ((fe_var A (i := 2) rfl rfl).toP) (fl_cons ((fe_var A (i := 3) rfl rfl).toP) (fl_cons ((fe_sub (fe_var A (i := 4) rfl rfl) fe_int).toP) fl_nil)))))).toP)) (fss_one (fs_exp (fe_append (fe_var A (i := 10) rfl rfl) ((fe_var A (i := 13) rfl rfl).toP)))))) (fss_one (fs_ret (fe_tup (fl_cons ((fe_tup (fl_cons fe_str.toP (fl_cons ((fe_var A (i := 12) rfl rfl).toP) (fl_cons ((fe_tuple A T.m_tuple (fe_var A (i := 10) rfl rfl)).toP) fl_nil)))).toP) (fl_cons ((fe_var A (i := 6) rfl rfl).toP) fl_nil)))))))) fss_nil) (fss_cons (fs_own A (i := 8) rfl rfl (fe_lst fl_nil)) (fss_cons (fs_for A [9, 11, 13] (fi_range1 A (A.no T.m_range) (fl_cons ((fe_add fe_int (fe_mod (fe_var A (i := 5) rfl rfl) fe_int)).toP) fl_nil)) srcR1_ns (fg_name A (i := 9) rfl rfl) (fss_cons (fs_set A (i := 11) rfl rfl ((fe_ix A (fe_lst (fl_cons fe_int.toP (fl_cons fe_int.toP (fl_cons fe_int.toP (fl_cons fe_int.toP fl_nil))))) (fe_mod (fe_div (fe_var A (i := 5) rfl rfl) (fe_ix A (fe_lst (fl_cons fe_int.toP (fl_cons fe_int.toP (fl_cons fe_int.toP fl_nil)))) (fe_var A (i := 9) rfl rfl))) fe_int)).toP)) (fss_cons (fs_pat (fg_tup A (fgs_cons (fg_name A (i := 13) rfl rfl) (fgs_cons (fg_name A (i := 6) rfl rfl) fgs_nil))) ((fe_call A K_law_term (fl_cons ((fe_var A (i := 6) rfl rfl).toP) (fl_cons ((fe_add (fe_var A (i := 1) rfl rfl) (fe_var A (i := 11) rfl rfl)).toP) (fl_cons ((fe_var A (i := 2) rfl rfl).toP) (fl_cons ((fe_var A (i := 3) rfl rfl).toP) (fl_cons ((fe_sub (fe_var A (i := 4) rfl rfl) fe_int).toP) fl_nil)))))).toP)) (fss_one (fs_exp (fe_append (fe_var A (i := 8) rfl rfl) ((fe_tup (fl_cons ((fe_var A (i := 11) rfl rfl).toP) (fl_cons ((fe_var A (i := 13) rfl rfl).toP) fl_nil))).toP))))))) (fss_one (fs_ret (fe_tup (fl_cons ((fe_tup (fl_cons fe_str.toP (fl_cons ((fe_ix A (fe_var A (i := 2) rfl rfl) (fe_add fe_int (fe_mod (fe_mod (fe_div (fe_var A (i := 5) rfl rfl) fe_int) fe_int) fe_int))).toP) (fl_cons ((fe_tuple A T.m_tuple (fe_var A (i := 8) rfl rfl)).toP) fl_nil)))).toP) (fl_cons ((fe_var A (i := 6) rfl rfl).toP) fl_nil)))))))))))))
theorem ks_law_term {Z : Wd} (T : Tops Z) : ∀ n : Nat, Known Z (2 + n) "_law_term" [] (f_law_term n)
  | 0 => T.t_law_term.none
  | n + 1 => by
    have ih := ks_law_term T n
    exact T.t_law_term.known (d_law_term T ih (Nat.le_add_right _ n))
theorem k_law_term {Z : Wd} (T : Tops Z) : Known Z 8 "_law_term" [] (f_law_term 6) := (ks_law_term T 6)
abbrev n_law_drawn : List Str := ["_law_cells", "_law_scope", "_law_seed", "_law_words_here", "_law_holes", "_law_k"]
theorem sc_law_drawn : FnScope n_law_drawn ["_law_cells", "_law_scope", "_law_seed"] (defScope s_law_drawn) := ⟨rfl, rfl, rfl, by decide +kernel, rfl, by decide +kernel, by decide +kernel⟩
set_option maxHeartbeats 4000000 in
theorem d_law_drawn {Z : Wd} (T : Tops Z) : ∀ f fd, Fun Z.K "_law_drawn" "_law_drawn" s_law_drawn f fd → FnOk Z.P Z.w Z.K Z.mg Z.base (L2.CX Z.P Z.w) (8 + 1) f fd ["_law_cells", "_law_scope", "_law_seed"] (spOf Z.K Z.mg (runDef 3 6 (b_law_drawn))) := fun f fd F =>
  def_ok F sc_law_drawn fun X E W A => fss_cons (fs_set A (i := 3) rfl rfl ((fe_call A ((k_law_words T).mono (by decide)) (fl_cons ((fe_var A (i := 2) rfl rfl).toP) (fl_cons fe_int.toP fl_nil))).toP)) (fss_cons (fs_lcSet A (i := 4) [("_law_k", 5)] rfl rfl rfl (by decide +kernel) rfl (fi_range1 A (A.no T.m_range) (fl_cons fe_int.toP fl_nil)) (by decide +kernel) (by decide) (fun _ A' => fg_name A' (i := 5) rfl rfl) (fun _ A' => fts_nil) (fun _ A' => (fe_tup (fl_cons ((fe_ix A' (fe_var A' (i := 3) rfl rfl) (fe_add fe_int (fe_var A' (i := 5) rfl rfl))).toP) (fl_cons ((fe_var A' (i := 5) rfl rfl).toP) fl_nil))).toP)) (fss_one (fs_ret (fe_ix A (fe_call A ((k_law_term T).mono (by decide)) (fl_cons ((fe_slice (fe_var A (i := 0) rfl rfl) fo_none (fo_some fe_int)).toP) (fl_cons ((fe_var A (i := 1) rfl rfl).toP) (fl_cons ((fe_var A (i := 3) rfl rfl).toP) (fl_cons ((fe_var A (i := 4) rfl rfl).toP) (fl_cons fe_int.toP fl_nil)))))) fe_int))))
theorem k_law_drawn {Z : Wd} (T : Tops Z) : Known Z 9 "_law_drawn" [] f_law_drawn := T.t_law_drawn.known (d_law_drawn T)
abbrev n_law_inner : List Str := ["_law_term_here", "_law_one"]
theorem sc_law_inner : FnScope n_law_inner ["_law_term_here"] (defScope s_law_inner) := ⟨rfl, rfl, rfl, by decide +kernel, rfl, by decide +kernel, by decide +kernel⟩
set_option maxHeartbeats 4000000 in
theorem d_law_inner {Z : Wd} (T : Tops Z) : ∀ f fd, Fun Z.K "_law_inner" "_law_inner" s_law_inner f fd → FnOk Z.P Z.w Z.K Z.mg Z.base (L2.CX Z.P Z.w) (0 + 1) f fd ["_law_term_here"] (spOf Z.K Z.mg (runDef 1 2 (b_law_inner))) := fun f fd F =>
  def_ok F sc_law_inner fun X E W A => fss_cons (fs_if (ft_eq A (fe_ix A (fe_var A (i := 0) rfl rfl) fe_int) fe_str) (fss_one (fs_ret (fe_lst fl_nil))) fss_nil) (fss_cons (fs_if (ft_eq A (fe_ix A (fe_var A (i := 0) rfl rfl) fe_int) fe_str) (fss_one (fs_ret (fe_list A T.m_list (fe_ix A (fe_var A (i := 0) rfl rfl) fe_int)))) fss_nil) (fss_one (fs_ret (lc_rule A (own := [("_law_one", 1)]) (fi_of (fe_ix A (fe_var A (i := 0) rfl rfl) fe_int)) (by decide +kernel) (by decide) (fun _ A' => fg_name A' (i := 1) rfl rfl) (fun _ A' => fts_nil) (fun _ A' => (fe_tup (fl_cons fe_int.toP (fl_cons ((fe_var A' (i := 1) rfl rfl).toP) fl_nil))).toP)))))
theorem k_law_inner {Z : Wd} (T : Tops Z) : Known Z 1 "_law_inner" [] f_law_inner := T.t_law_inner.known (d_law_inner T)
abbrev n_law_reaches : List Str := ["_law_term_here", "_law_waiting", "_law_found", "_law_one", "_law_bound", "_law_many", "_law_below"]
theorem sc_law_reaches : FnScope n_law_reaches ["_law_term_here"] (defScope s_law_reaches) := ⟨rfl, rfl, rfl, by decide +kernel, rfl, by decide +kernel, by decide +kernel⟩
set_option maxHeartbeats 4000000 in
theorem d_law_reaches {Z : Wd} (T : Tops Z) : ∀ f fd, Fun Z.K "_law_reaches" "_law_reaches" s_law_reaches f fd → FnOk Z.P Z.w Z.K Z.mg Z.base (L2.CX Z.P Z.w) (1 + 1) f fd ["_law_term_here"] (spOf Z.K Z.mg (runDef 1 7 (b_law_reaches))) := fun f fd F =>
  def_ok F sc_law_reaches fun X E W A => fss_cons (fs_own A (i := 1) rfl rfl (fe_lst (fl_cons ((fe_tup (fl_cons ((fe_var A (i := 0) rfl rfl).toP) (fl_cons fe_int.toP fl_nil))).toP) fl_nil))) (fss_cons (fs_set A (i := 2) rfl rfl fe_int.toP) (fss_cons (fs_while A [3, 4, 5, 6] 100000000 (ft_ne A (fe_var A (i := 1) rfl rfl) (fe_lst fl_nil)) (fss_cons (fs_pat (fg_tup A (fgs_cons (fg_name A (i := 3) rfl rfl) (fgs_cons (fg_name A (i := 4) rfl rfl) fgs_nil))) ((fe_pop (fe_var A (i := 1) rfl rfl)).toP)) (fss_cons (fs_if (ft_eq A (fe_ix A (fe_var A (i := 3) rfl rfl) fe_int) fe_str) (fss_one (fs_set A (i := 2) rfl rfl ((fe_max2 A T.m_max (fe_var A (i := 2) rfl rfl) (fe_sub (fe_add (fe_ix A (fe_var A (i := 3) rfl rfl) fe_int) fe_int) (fe_var A (i := 4) rfl rfl))).toP))) fss_nil) (fss_one (fs_for A [5, 6] (fi_of ((fe_call A ((k_law_inner T).mono (by decide)) (fl_cons ((fe_var A (i := 3) rfl rfl).toP) fl_nil)).toP).fe) srcP_ns (fg_tup A (fgs_cons (fg_name A (i := 5) rfl rfl) (fgs_cons (fg_name A (i := 6) rfl rfl) fgs_nil))) (fss_one (fs_exp (fe_append (fe_var A (i := 1) rfl rfl) ((fe_tup (fl_cons ((fe_var A (i := 6) rfl rfl).toP) (fl_cons ((fe_add (fe_var A (i := 4) rfl rfl) (fe_var A (i := 5) rfl rfl)).toP) fl_nil))).toP))))))))) (fss_one (fs_ret (fe_var A (i := 2) rfl rfl)))))
theorem k_law_reaches {Z : Wd} (T : Tops Z) : Known Z 2 "_law_reaches" [] f_law_reaches := T.t_law_reaches.known (d_law_reaches T)
abbrev n_law_is : List Str := ["_law_found", "_law_due"]
theorem sc_law_is : FnScope n_law_is ["_law_found", "_law_due"] (defScope s_law_is) := ⟨rfl, rfl, rfl, by decide +kernel, rfl, by decide +kernel, by decide +kernel⟩
set_option maxHeartbeats 4000000 in
theorem d_law_is {Z : Wd} (T : Tops Z) : ∀ f fd, Fun Z.K "_law_is" "_law_is" s_law_is f fd → FnOk Z.P Z.w Z.K Z.mg Z.base (L2.CX Z.P Z.w) (0 + 1) f fd ["_law_found", "_law_due"] (spOf Z.K Z.mg (runDef 2 2 (b_law_is))) := fun f fd F =>
  def_ok F sc_law_is fun X E W A => fss_one (fs_ret (fe_and (fe_isi A T.m_isinstance T.m_int boot_tint (fe_var A (i := 0) rfl rfl)) (fe_and (fe_not (fe_isi A T.m_isinstance T.m_bool boot_tbool (fe_var A (i := 0) rfl rfl))) (fe_one (fe_eq A (fe_var A (i := 0) rfl rfl) (fe_var A (i := 1) rfl rfl))))))
theorem k_law_is {Z : Wd} (T : Tops Z) : Known Z 1 "_law_is" [] f_law_is := T.t_law_is.known (d_law_is T)
abbrev n_law : List Str := ["_law_script", "_law_k", "_law_seed", "_law_term_here", "_law_due", "_law_many"]
theorem sc_law : FnScope n_law ["_law_script"] (defScope s_law) := ⟨rfl, rfl, rfl, by decide +kernel, rfl, by decide +kernel, by decide +kernel⟩
set_option maxHeartbeats 4000000 in
theorem d_law {Z : Wd} (T : Tops Z) : ∀ f fd, Fun Z.K "law" "law" s_law f fd → FnOk Z.P Z.w Z.K Z.mg Z.base (L2.CX Z.P Z.w) (31 + 1) f fd ["_law_script"] (spOf Z.K Z.mg (runDef 1 6 (b_law))) := fun f fd F =>
  def_ok F sc_law fun X E W A => fss_cons (fs_for A [1, 2, 3, 4, 5] (fi_range3 A (A.no T.m_range) (fl_cons fe_int.toP (fl_cons ((fe_max2 A T.m_max fe_int (fe_min2 A T.m_min (fe_len A T.m_len (fe_var A (i := 0) rfl rfl)) fe_int)).toP) (fl_cons fe_int.toP fl_nil)))) srcR3_ns (fg_name A (i := 1) rfl rfl) (fss_cons (fs_set A (i := 2) rfl rfl ((fe_call A ((k_law_cell_at T).mono (by decide)) (fl_cons ((fe_var A (i := 0) rfl rfl).toP) (fl_cons ((fe_var A (i := 1) rfl rfl).toP) fl_nil))).toP)) (fss_cons (fs_set A (i := 3) rfl rfl ((fe_call A ((k_law_drawn T).mono (by decide)) (fl_cons ((fe_slice (fe_var A (i := 0) rfl rfl) (fo_some (fe_var A (i := 1) rfl rfl)) fo_none).toP) (fl_cons ((fe_mod (fe_call A ((k_law_mix T).mono (by decide)) (fl_cons ((fe_var A (i := 2) rfl rfl).toP) (fl_cons fe_int.toP fl_nil))) fe_int).toP) (fl_cons ((fe_var A (i := 2) rfl rfl).toP) fl_nil)))).toP)) (fss_cons (fs_set A (i := 4) rfl rfl ((fe_call A ((k_law_reaches T).mono (by decide)) (fl_cons ((fe_var A (i := 3) rfl rfl).toP) fl_nil)).toP)) (fss_cons (fs_set A (i := 5) rfl rfl ((fe_mod (fe_call A ((k_law_mix T).mono (by decide)) (fl_cons ((fe_var A (i := 2) rfl rfl).toP) (fl_cons fe_int.toP fl_nil))) fe_int).toP)) (fss_cons (fs_if ((fw_or (ft_not (ft_val (fe_call A ((k_law_is T).mono (by decide)) (fl_cons ((fe_call A ((k_least_scope T).mono (by decide)) (fl_cons ((fe_var A (i := 3) rfl rfl).toP) fl_nil)).toP) (fl_cons ((fe_var A (i := 4) rfl rfl).toP) fl_nil))))) (fw_or1 (ft_not (ft_val (fe_call A ((k_law_is T).mono (by decide)) (fl_cons ((fe_call A ((k_least_scope T).mono (by decide)) (fl_cons ((fe_tup (fl_cons fe_str.toP (fl_cons fe_str.toP (fl_cons ((fe_tup (fl_cons ((fe_var A (i := 3) rfl rfl).toP) (fl_cons ((fe_var A (i := 3) rfl rfl).toP) fl_nil))).toP) fl_nil)))).toP) fl_nil)).toP) (fl_cons ((fe_var A (i := 4) rfl rfl).toP) fl_nil))))))).ft) (fss_one (fs_ret fe_bl)) fss_nil) (fss_one (fs_if (ft_not (ft_val (fe_call A ((k_law_is T).mono (by decide)) (fl_cons ((fe_call A ((k_least_scope T).mono (by decide)) (fl_cons ((fe_tup (fl_cons fe_str.toP (fl_cons fe_str.toP (fl_cons ((fe_tup (fl_cons ((fe_tup (fl_cons fe_int.toP (fl_cons ((fe_tup (fl_cons fe_str.toP (fl_cons fe_str.toP (fl_cons ((fe_tup fl_nil).toP) fl_nil)))).toP) fl_nil))).toP) (fl_cons ((fe_tup (fl_cons ((fe_var A (i := 5) rfl rfl).toP) (fl_cons ((fe_var A (i := 3) rfl rfl).toP) fl_nil))).toP) fl_nil))).toP) fl_nil)))).toP) fl_nil)).toP) (fl_cons ((fe_max2 A T.m_max fe_int (fe_sub (fe_var A (i := 4) rfl rfl) (fe_var A (i := 5) rfl rfl))).toP) fl_nil))))) (fss_one (fs_ret fe_bl)) fss_nil)))))))) (fss_one (fs_ret fe_bl))
theorem k_law {Z : Wd} (T : Tops Z) : Known Z 32 "law" [] f_law := T.t_law.known (d_law T)
end HF

end
section
set_option Elab.async false
set_option linter.all false
set_option maxRecDepth 20000
set_option autoImplicit false
/-! HM: plain lemmas on loops and comprehensions; terms. -/
namespace HF
open PySem PySem.Spec PyProof.Rows L2

/-! ### loops -/
section
variable {e : EV} {all : List PV} {pt : Pat} {vs ws : List Nat} {t : Sm Bool} {f : Sm PV} {b : Ss} {c : Sm Bool}
theorem lcL_nil (acc : List PV) (M : Mem) (h : Chk e all M) : lcL e all pt vs t f [] acc M = some (acc, M) := by
  unfold lcL; rw [if_pos h]
theorem lcL_fm {α : Type} (M : Mem) (h : Chk e all M) (k : α → PV) (g : α → Option PV) : ∀ (ys : List α) (acc : List PV), (∀ y ∈ ys, lcStep pt vs t f (k y) M = some (g y, M)) → lcL e all pt vs t f (ys.map k) acc M = some (acc ++ ys.filterMap g, M)
  | [], acc, _ => by rw [List.map_nil, lcL_nil _ _ h]; simp
  | y :: ys, acc, H => by
    have h1 := H y List.mem_cons_self
    have h2 := fun acc => lcL_fm M h k g ys acc fun z hz => H z (List.mem_cons_of_mem _ hz)
    simp only [List.map_cons]
    unfold lcL
    rw [if_pos h, h1]
    cases e : g y with
    | none => simp only [h2, List.filterMap_cons, e]
    | some p => simp only [h2, List.filterMap_cons, e, List.append_assoc, List.singleton_append]
theorem lcL_map {α : Type} (M : Mem) (h : Chk e all M) (k g : α → PV) (ys : List α) (acc : List PV) (H : ∀ y ∈ ys, lcStep pt vs t f (k y) M = some (some (g y), M)) : lcL e all pt vs t f (ys.map k) acc M = some (acc ++ ys.map g, M) := by
  rw [lcL_fm M h k (fun y => some (g y)) ys acc H]
  simp
theorem forL_inv {α : Type} (k : α → PV) (I : List α → Mem → Prop) (Q : SR → Prop)
    (step : ∀ y ys M, I (y :: ys) M → Chk e all M ∧ ((∃ M', forTurn pt b ws (k y) M = .go M' ∧ I ys M') ∨ ∃ z, forTurn pt b ws (k y) M = .out z ∧ Q z))
    (fin : ∀ M, I [] M → Chk e all M ∧ Q (.nx M)) : ∀ (ys : List α) (M : Mem), I ys M → Q (forL e all pt b ws (ys.map k) M)
  | [], M, h => by
    obtain ⟨h1, h2⟩ := fin M h
    simp only [List.map_nil]; unfold forL; rw [if_pos h1]; exact h2
  | y :: ys, M, h => by
    obtain ⟨h1, h2⟩ := step y ys M h
    simp only [List.map_cons]
    unfold forL
    rw [if_pos h1]
    rcases h2 with ⟨M', e1, h3⟩ | ⟨z, e1, h3⟩
    · rw [e1]; exact forL_inv k I Q step fin ys M' h3
    · rw [e1]; exact h3
/-- a loop that always goes on: its state is a function of what it has seen -/
theorem forL_fold {α σ : Type} (St : σ → Mem) (k : α → PV) (step : σ → α → σ) (h : ∀ s, Chk e all (St s)) : ∀ (ys : List α) (s : σ), (∀ y ∈ ys, ∀ s, forTurn pt b ws (k y) (St s) = .go (St (step s y))) → forL e all pt b ws (ys.map k) (St s) = .nx (St (ys.foldl step s))
  | [], s, _ => by simp only [List.map_nil]; unfold forL; rw [if_pos (h s)]; rfl
  | y :: ys, s, H => by
    have h2 := forL_fold St k step h ys (step s y) fun z hz => H z (List.mem_cons_of_mem _ hz)
    simp only [List.map_cons]
    unfold forL
    rw [if_pos (h s), H y List.mem_cons_self s]
    exact h2
theorem lcL_map0 {α : Type} (M : Mem) (k g : α → PV) (ys : List α) (acc : List PV) (H : ∀ y ∈ ys, lcStep pt vs t f (k y) M = some (some (g y), M)) : lcL (.v .non) all pt vs t f (ys.map k) acc M = some (acc ++ ys.map g, M) := lcL_map (e := .v .non) (all := all) M trivial k g ys acc H
theorem lcL_fm0 {α : Type} (M : Mem) (k : α → PV) (g : α → Option PV) (ys : List α) (acc : List PV) (H : ∀ y ∈ ys, lcStep pt vs t f (k y) M = some (g y, M)) : lcL (.v .non) all pt vs t f (ys.map k) acc M = some (acc ++ ys.filterMap g, M) := lcL_fm (e := .v .non) (all := all) M trivial k g ys acc H
theorem forL_fold0 {α σ : Type} (St : σ → Mem) (k : α → PV) (step : σ → α → σ) (ys : List α) (s : σ) (H : ∀ y ∈ ys, ∀ s, forTurn pt b ws (k y) (St s) = .go (St (step s y))) : forL (.v .non) all pt b ws (ys.map k) (St s) = .nx (St (ys.foldl step s)) := forL_fold (e := .v .non) (all := all) St k step (fun _ => trivial) ys s H
theorem whileL_inv (I : Nat → Mem → Prop) (Q : SR → Prop)
    (step : ∀ n M, I n M → (∃ M1, c M = .ok false M1 ∧ Q (.nx M1)) ∨ ∃ M1, c M = .ok true M1 ∧ ((∃ M2 n', (b M1 = .nx M2 ∨ b M1 = .cnt M2) ∧ n' < n ∧ I n' (forget ws M2)) ∨ (∃ M2, b M1 = .brk M2 ∧ Q (.nx (forget ws M2))) ∨ (∃ e M2, b M1 = .ret e M2 ∧ Q (.ret e M2)))) :
    ∀ (n : Nat) (M : Mem) (fuel : Nat), n < fuel → I n M → Q (whileL c b ws fuel M) := by
  intro n M fuel
  induction fuel generalizing n M with
  | zero => intro h; omega
  | succ m ih =>
    intro lt h
    unfold whileL
    rcases step n M h with ⟨M1, e1, q⟩ | ⟨M1, e1, q⟩
    · rw [e1]; simpa using q
    · rw [e1]
      rcases q with ⟨M2, n', e2, l2, q⟩ | ⟨M2, e2, q⟩ | ⟨e3, M2, e2, q⟩
      · rcases e2 with e2 | e2 <;> simp only [Res.st, if_true, e2] <;> exact ih n' _ (by omega) q
      · simpa only [Res.st, if_true, e2] using q
      · simpa only [Res.st, if_true, e2] using q
end

/-! ### terms -/
inductive Tm where
  | name (k : Nat)
  | sign (w : Str) (ps : List (Nat × Tm))
  | hole (w : Str) (ts : List Tm)
theorem Tm.lt_sign {w : Str} {ps : List (Nat × Tm)} {p : Nat × Tm} (h : p ∈ ps) : sizeOf p.2 < sizeOf (Tm.sign w ps) := by
  have := List.sizeOf_lt_of_mem h
  obtain ⟨a, b⟩ := p
  simp at this ⊢
  omega
theorem Tm.lt_hole {w : Str} {ts : List Tm} {p : Tm} (h : p ∈ ts) : sizeOf p < sizeOf (Tm.hole w ts) := by
  have := List.sizeOf_lt_of_mem h
  simp at this ⊢
  omega
section
variable {α : Type} (fn : Nat → α) (fs : Str → List (Nat × α) → α) (fh : Str → List α → α)
def Tm.fold : Tm → α
  | .name k => fn k
  | .sign w ps => fs w (ps.attach.map fun p => (p.1.1, Tm.fold p.1.2))
  | .hole w ts => fh w (ts.attach.map fun p => Tm.fold p.1)
termination_by t => sizeOf t
decreasing_by
  · exact Tm.lt_sign p.2
  · exact Tm.lt_hole p.2
theorem Tm.fold_name (k : Nat) : Tm.fold fn fs fh (.name k) = fn k := by rw [Tm.fold]
theorem Tm.fold_sign (w : Str) (ps : List (Nat × Tm)) : Tm.fold fn fs fh (.sign w ps) = fs w (ps.map fun p => (p.1, Tm.fold fn fs fh p.2)) := by
  rw [Tm.fold]; congr 1; exact List.attach_map_val (l := ps) (f := fun p => (p.1, Tm.fold fn fs fh p.2))
theorem Tm.fold_hole (w : Str) (ts : List Tm) : Tm.fold fn fs fh (.hole w ts) = fh w (ts.map fun p => Tm.fold fn fs fh p) := by
  rw [Tm.fold]; congr 1; exact List.attach_map_val (l := ts) (f := fun p => Tm.fold fn fs fh p)
end
theorem Tm.ind {P : Tm → Prop} (hn : ∀ k, P (.name k)) (hs : ∀ w ps, (∀ p ∈ ps, P p.2) → P (.sign w ps)) (hh : ∀ w ts, (∀ t ∈ ts, P t) → P (.hole w ts)) (t : Tm) : P t :=
  match t with
  | .name k => hn k
  | .sign w ps => hs w ps fun p hp => Tm.ind hn hs hh p.2
  | .hole w ts => hh w ts fun p hp => Tm.ind hn hs hh p
termination_by sizeOf t
decreasing_by
  · exact Tm.lt_sign hp
  · exact Tm.lt_hole hp
/-- how a term is told -/
def Tm.enc : Tm → PV := Tm.fold (fun k => .tup [.str "name", .int k]) (fun w ps => .tup [.str "sign", .str w, .tup (ps.map fun p => .tup [.int p.1, p.2])]) (fun w ts => .tup [.str "hole", .str w, .tup ts])
def encP (p : Nat × Tm) : PV := .tup [.int p.1, p.2.enc]
theorem Tm.enc_name (k : Nat) : (Tm.name k).enc = .tup [.str "name", .int k] := Tm.fold_name ..
theorem Tm.enc_sign (w : Str) (ps : List (Nat × Tm)) : (Tm.sign w ps).enc = .tup [.str "sign", .str w, .tup (ps.map encP)] := by
  unfold Tm.enc; rw [Tm.fold_sign, List.map_map]; rfl
theorem Tm.enc_hole (w : Str) (ts : List Tm) : (Tm.hole w ts).enc = .tup [.str "hole", .str w, .tup (ts.map Tm.enc)] := by
  unfold Tm.enc; rw [Tm.fold_hole]
/-- its parts -/
def Tm.inner : Tm → List (Nat × Tm)
  | .name _ => []
  | .sign _ ps => ps
  | .hole _ ts => ts.map fun t => (0, t)
theorem Tm.ind' {P : Tm → Prop} (h : ∀ t : Tm, (∀ p ∈ t.inner, P p.2) → P t) (t : Tm) : P t :=
  Tm.ind (fun k => h _ fun p hp => by simp [Tm.inner] at hp) (fun w ps ih => h _ fun p hp => ih p hp) (fun w ts ih => h _ fun p hp => by
    simp only [Tm.inner, List.mem_map] at hp
    obtain ⟨t, ht, rfl⟩ := hp
    exact ih t ht) t
def Tm.size : Tm → Nat := Tm.fold (fun _ => 1) (fun _ ps => 1 + (ps.map (·.2)).sum) (fun _ ts => 1 + ts.sum)
theorem Tm.size_eq (t : Tm) : t.size = 1 + (t.inner.map fun p => p.2.size).sum := by
  cases t with
  | name k => simp [Tm.size, Tm.fold_name, Tm.inner]
  | sign w ps => simp [Tm.size, Tm.fold_sign, Tm.inner, Function.comp_def]
  | hole w ts => simp [Tm.size, Tm.fold_hole, Tm.inner, Function.comp_def]
def nmax : List Nat → Nat
  | [] => 0
  | n :: ns => max n (nmax ns)
theorem le_nmax {n : Nat} : ∀ {ns : List Nat}, n ∈ ns → n ≤ nmax ns
  | m :: ns, h => by
    unfold nmax
    rcases List.mem_cons.mp h with rfl | h
    · omega
    · have := le_nmax h; omega
theorem nmax_le {n : Nat} : ∀ {ns : List Nat}, (∀ m ∈ ns, m ≤ n) → nmax ns ≤ n
  | [], _ => Nat.zero_le _
  | m :: ns, h => by
    unfold nmax
    have h1 := h m List.mem_cons_self
    have h2 := nmax_le (ns := ns) fun k hk => h k (List.mem_cons_of_mem _ hk)
    omega
/-- how many levels it has: a leaf has one -/
def Tm.depth : Tm → Nat := Tm.fold (fun _ => 1) (fun _ ps => 1 + nmax (ps.map (·.2))) (fun _ ts => 1 + nmax ts)
theorem Tm.depth_eq (t : Tm) : t.depth = 1 + nmax (t.inner.map fun p => p.2.depth) := by
  cases t with
  | name k => simp [Tm.depth, Tm.fold_name, Tm.inner, nmax]
  | sign w ps => simp [Tm.depth, Tm.fold_sign, Tm.inner, Function.comp_def]
  | hole w ts => simp [Tm.depth, Tm.fold_hole, Tm.inner, Function.comp_def]
theorem Tm.depth_lt {t : Tm} {p : Nat × Tm} (h : p ∈ t.inner) : p.2.depth < t.depth := by
  rw [Tm.depth_eq t]
  have := le_nmax (List.mem_map_of_mem (f := fun p : Nat × Tm => p.2.depth) h)
  omega
theorem le_nsum {n : Nat} : ∀ {ns : List Nat}, n ∈ ns → n ≤ ns.sum
  | m :: ns, h => by
    rw [List.sum_cons]
    rcases List.mem_cons.mp h with rfl | h
    · omega
    · have := le_nsum h; omega
theorem Tm.size_lt {t : Tm} {p : Nat × Tm} (h : p ∈ t.inner) : p.2.size < t.size := by
  rw [Tm.size_eq t]
  have := le_nsum (List.mem_map_of_mem (f := fun p : Nat × Tm => p.2.size) h)
  omega
theorem Tm.size_pos (t : Tm) : 0 < t.size := by rw [Tm.size_eq]; omega
theorem Tm.inner_len {t : Tm} : t.inner.length < t.size := by
  rw [Tm.size_eq]
  have : ∀ l : List (Nat × Tm), l.length ≤ (l.map fun p => p.2.size).sum := by
    intro l
    induction l with
    | nil => simp
    | cons p l ih => have := p.2.size_pos; simp only [List.map_cons, List.sum_cons, List.length_cons]; omega
  have := this t.inner
  omega
theorem atI_nat {α : Type} (xs : List α) (j : Nat) : atI xs (j : Int) = xs[j]? := by
  unfold atI ixN
  rw [if_pos (Int.natCast_nonneg j)]
  by_cases h : (j : Int) < xs.length
  · rw [if_pos h]; simp
  · rw [if_neg h]
    have : xs.length ≤ j := by omega
    simp [this]
theorem atI_ofNat {α : Type} (xs : List α) (n : Nat) : atI xs (@OfNat.ofNat Int n _) = xs[n]? := atI_nat xs n
theorem atI_0 {α : Type} (xs : List α) : atI xs 0 = xs[0]? := atI_nat xs 0
theorem atI_1 {α : Type} (xs : List α) : atI xs 1 = xs[1]? := atI_nat xs 1
theorem atI_2 {α : Type} (xs : List α) : atI xs 2 = xs[2]? := atI_nat xs 2
theorem atI_3 {α : Type} (xs : List α) : atI xs 3 = xs[3]? := atI_nat xs 3
theorem str_ns : (Str.ofString "name" = Str.ofString "sign") = False := by simp; decide +kernel
theorem str_nh : (Str.ofString "name" = Str.ofString "hole") = False := by simp; decide +kernel
theorem str_sn : (Str.ofString "sign" = Str.ofString "name") = False := by simp; decide +kernel
theorem str_sh : (Str.ofString "sign" = Str.ofString "hole") = False := by simp; decide +kernel
theorem str_hn : (Str.ofString "hole" = Str.ofString "name") = False := by simp; decide +kernel
theorem str_hs : (Str.ofString "hole" = Str.ofString "sign") = False := by simp; decide +kernel
theorem sizeLine_val : sizeLine = 16777216 := by decide
/-! ### terms as data -/
theorem asInts_fun {α : Type} (g : α → Int) : ∀ ys : List α, asInts (ys.map fun y => .int (g y)) = some (ys.map g)
  | [] => rfl
  | y :: ys => by simp [asInts_fun g ys]
theorem asInts_snoc (xs : List PV) (ns : List Int) (n : Int) (h : asInts xs = some ns) : asInts (xs ++ [.int n]) = some (ns ++ [n]) := by
  induction xs generalizing ns with
  | nil => cases h; rfl
  | cons x xs ih =>
    cases x <;> simp only [asInts] at h <;> try cases h
    rename_i i
    cases e : asInts xs with
    | none => simp [e] at h
    | some ms =>
      simp [e] at h
      subst h
      simp [ih ms e]
theorem toDs_map {α : Type} (k : α → PV) (d : α → PyData) : ∀ ys : List α, (∀ y ∈ ys, (k y).toD = some (d y)) → toDs (ys.map k) = some (ys.map d)
  | [], _ => by simp [toDs]
  | y :: ys, h => by simp [toDs, h y List.mem_cons_self, toDs_map k d ys fun z hz => h z (List.mem_cons_of_mem _ hz)]
theorem canLayAll0_all : ∀ ds : List PyData, PyData.canLayAll0 ds = ds.all PyData.canLay0
  | [] => rfl
  | d :: ds => by simp [PyData.canLayAll0, canLayAll0_all ds]
theorem depthAll_nmax : ∀ ds : List PyData, PyData.depthAll ds = nmax (ds.map PyData.depth)
  | [] => rfl
  | d :: ds => by simp [PyData.depthAll, nmax, depthAll_nmax ds]
theorem shaped_list {ds : List PyData} (h : ∀ d ∈ ds, d.canLay0 = true ∧ d.depth ≤ 63) : SeqAt.shaped (.list ds) = true := by
  unfold SeqAt.shaped
  simp only [PyData.canLay0, PyData.depth, canLayAll0_all, depthAll_nmax, Bool.and_eq_true, List.all_eq_true, decide_eq_true_eq]
  refine ⟨fun d hd => (h d hd).1, ?_⟩
  have : nmax (ds.map PyData.depth) ≤ 63 := nmax_le fun m hm => by
    obtain ⟨d, hd, rfl⟩ := List.mem_map.mp hm
    exact (h d hd).2
  omega
theorem eqv_nil (ds : List PyData) : PyData.eqv (.list ds) (.list []) = ds.isEmpty := by
  cases ds <;> simp [PyData.eqv, PyData.eqvAll]
def Tm.dat : Tm → PyData := Tm.fold (fun k => .tuple [.str "name", .int k]) (fun w ps => .tuple [.str "sign", .str w, .tuple (ps.map fun p => .tuple [.int p.1, p.2])]) (fun w ts => .tuple [.str "hole", .str w, .tuple ts])
def datP (p : Nat × Tm) : PyData := .tuple [.int p.1, p.2.dat]
theorem Tm.dat_name (k : Nat) : (Tm.name k).dat = .tuple [.str "name", .int k] := Tm.fold_name ..
theorem Tm.dat_sign (w : Str) (ps : List (Nat × Tm)) : (Tm.sign w ps).dat = .tuple [.str "sign", .str w, .tuple (ps.map datP)] := by
  unfold Tm.dat; rw [Tm.fold_sign, List.map_map]; rfl
theorem Tm.dat_hole (w : Str) (ts : List Tm) : (Tm.hole w ts).dat = .tuple [.str "hole", .str w, .tuple (ts.map Tm.dat)] := by
  unfold Tm.dat; rw [Tm.fold_hole]
theorem Tm.enc_toD (t : Tm) : t.enc.toD = some t.dat := by
  induction t using Tm.ind with
  | hn k => simp [Tm.enc_name, Tm.dat_name, PV.toD, toDs]
  | hs w ps ih => 
    have := toDs_map encP datP ps fun p hp => by simp [encP, datP, PV.toD, toDs, ih p hp]
    simp [Tm.enc_sign, Tm.dat_sign, PV.toD, toDs, this]
  | hh w ts ih => 
    have := toDs_map Tm.enc Tm.dat ts fun p hp => ih p hp
    simp [Tm.enc_hole, Tm.dat_hole, PV.toD, toDs, this]
/-- all words of a term -/
def Tm.words : Tm → List Str := Tm.fold (fun _ => []) (fun w ps => w :: (ps.map (·.2)).flatten) (fun w ts => w :: ts.flatten)
theorem Tm.words_name (k : Nat) : (Tm.name k).words = [] := Tm.fold_name ..
theorem Tm.words_sign (w : Str) (ps : List (Nat × Tm)) : (Tm.sign w ps).words = w :: (ps.map fun p => p.2.words).flatten := by
  unfold Tm.words; rw [Tm.fold_sign, List.map_map]; rfl
theorem Tm.words_hole (w : Str) (ts : List Tm) : (Tm.hole w ts).words = w :: (ts.map Tm.words).flatten := by
  unfold Tm.words; rw [Tm.fold_hole]
/-- its words can be compared -/
def Tm.Lay (t : Tm) : Prop := ∀ w ∈ t.words, PyData.strOk w = true
theorem Tm.Lay.inner {t : Tm} (h : t.Lay) {p : Nat × Tm} (hp : p ∈ t.inner) : p.2.Lay := by
  intro w hw
  cases t with
  | name k => simp [Tm.inner] at hp
  | sign v ps => refine h w ?_; rw [Tm.words_sign]; exact List.mem_cons_of_mem _ (List.mem_flatten.mpr ⟨_, List.mem_map_of_mem hp, hw⟩)
  | hole v ts => 
    simp only [Tm.inner, List.mem_map] at hp
    obtain ⟨t, ht, rfl⟩ := hp
    refine h w ?_; rw [Tm.words_hole]; exact List.mem_cons_of_mem _ (List.mem_flatten.mpr ⟨_, List.mem_map_of_mem ht, hw⟩)
theorem nmax_map_le {α : Type} {f g : α → Nat} : ∀ {ys : List α}, (∀ y ∈ ys, f y ≤ g y) → nmax (ys.map f) ≤ nmax (ys.map g)
  | [], _ => Nat.le_refl _
  | y :: ys, h => by
    have h1 := h y List.mem_cons_self
    have h2 := nmax_map_le (f := f) (g := g) (ys := ys) fun z hz => h z (List.mem_cons_of_mem _ hz)
    simp only [List.map_cons, nmax]
    omega
theorem strOk_name : PyData.strOk (Str.ofString "name") = true := by decide +kernel
theorem strOk_sign : PyData.strOk (Str.ofString "sign") = true := by decide +kernel
theorem strOk_hole : PyData.strOk (Str.ofString "hole") = true := by decide +kernel
theorem Tm.dat_lay (t : Tm) (h : t.Lay) : t.dat.canLay0 = true := by
  induction t using Tm.ind with
  | hn k => simp [Tm.dat_name, PyData.canLay0, PyData.canLayAll0, strOk_name]
  | hs w ps ih => 
    have h1 : PyData.strOk w = true := h w (by rw [Tm.words_sign]; exact List.mem_cons_self)
    simp only [Tm.dat_sign, PyData.canLay0, PyData.canLayAll0, strOk_sign, h1, canLayAll0_all, Bool.and_true, Bool.true_and, List.all_eq_true]
    intro d hd
    obtain ⟨p, hp, rfl⟩ := List.mem_map.mp hd
    simp [datP, PyData.canLay0, PyData.canLayAll0, ih p hp (h.inner (t := .sign w ps) hp)]
  | hh w ts ih => 
    have h1 : PyData.strOk w = true := h w (by rw [Tm.words_hole]; exact List.mem_cons_self)
    simp only [Tm.dat_hole, PyData.canLay0, PyData.canLayAll0, strOk_hole, h1, canLayAll0_all, Bool.and_true, Bool.true_and, List.all_eq_true]
    intro d hd
    obtain ⟨p, hp, rfl⟩ := List.mem_map.mp hd
    exact ih p hp (h.inner (t := .hole w ts) (p := (0, p)) (by simp [Tm.inner, hp]))
theorem Tm.dat_depth (t : Tm) : t.dat.depth ≤ 3 * t.depth := by
  induction t using Tm.ind with
  | hn k => simp [Tm.dat_name, PyData.depth, PyData.depthAll, Tm.depth, Tm.fold_name]
  | hs w ps ih => 
    rw [Tm.depth_eq]
    simp only [Tm.dat_sign, PyData.depth, PyData.depthAll, depthAll_nmax, Tm.inner, List.map_map]
    have : nmax (ps.map (PyData.depth ∘ datP)) ≤ 1 + 3 * nmax (ps.map fun p => p.2.depth) := nmax_le fun m hm => by
      obtain ⟨p, hp, rfl⟩ := List.mem_map.mp hm
      have h1 := ih p hp
      have h2 := le_nmax (List.mem_map_of_mem (f := fun p : Nat × Tm => p.2.depth) hp)
      simp only [Function.comp, datP, PyData.depth, PyData.depthAll]
      omega
    omega
  | hh w ts ih => 
    rw [Tm.depth_eq]
    simp only [Tm.dat_hole, PyData.depth, PyData.depthAll, depthAll_nmax, Tm.inner, List.map_map]
    have : nmax (ts.map (PyData.depth ∘ Tm.dat)) ≤ 3 * nmax (ts.map ((fun p : Nat × Tm => p.2.depth) ∘ fun t => (0, t))) := nmax_le fun m hm => by
      obtain ⟨p, hp, rfl⟩ := List.mem_map.mp hm
      have h1 := ih p hp
      have h2 := le_nmax (List.mem_map_of_mem (f := ((fun p : Nat × Tm => p.2.depth) ∘ fun t => (0, t))) hp)
      simp only [Function.comp] at h2 ⊢
      omega
    omega
theorem Tm.dat_ok {t : Tm} (h : t.Lay) (hd : t.depth ≤ 20) : t.dat.canLay0 = true ∧ t.dat.depth ≤ 60 := ⟨t.dat_lay h, by have := t.dat_depth; omega⟩
theorem toDs_ints (ns : List Int) : toDs (ns.map .int) = some (ns.map .int) := toDs_map _ _ ns fun _ _ => by simp [PV.toD]
theorem shaped_ints (ns : List Int) : SeqAt.shaped (.list (ns.map .int)) = true := shaped_list fun d hd => by
  obtain ⟨n, _, rfl⟩ := List.mem_map.mp hd
  simp [PyData.canLay0, PyData.depth]
theorem shaped_nil : SeqAt.shaped (.list []) = true := shaped_ints []
/-- all names lie in a scope -/
def Tm.In : Tm → Nat → Prop := Tm.fold (fun k s => k < s) (fun _ ps s => ∀ p ∈ ps, p.2 (s + p.1)) (fun _ ts s => ∀ t ∈ ts, t s)
theorem Tm.In_name (k s : Nat) : (Tm.name k).In s ↔ k < s := by unfold Tm.In; rw [Tm.fold_name]
theorem Tm.In_sign (w : Str) (ps : List (Nat × Tm)) (s : Nat) : (Tm.sign w ps).In s ↔ ∀ p ∈ ps, p.2.In (s + p.1) := by
  unfold Tm.In; rw [Tm.fold_sign]; simp only [List.mem_map, forall_exists_index, and_imp, forall_apply_eq_imp_iff₂]
theorem Tm.In_hole (w : Str) (ts : List Tm) (s : Nat) : (Tm.hole w ts).In s ↔ ∀ t ∈ ts, t.In s := by
  unfold Tm.In; rw [Tm.fold_hole]; simp only [List.mem_map, forall_exists_index, and_imp, forall_apply_eq_imp_iff₂]
/-- what holds of each sign and each hole of a term -/
def Tm.Ok (S : Str → List Nat → Prop) (O : Str → Nat → Prop) : Tm → Prop := Tm.fold (fun _ => True) (fun w ps => S w (ps.map (·.1)) ∧ ∀ p ∈ ps, p.2) (fun w ts => O w ts.length ∧ ∀ t ∈ ts, t)
section
variable {S : Str → List Nat → Prop} {O : Str → Nat → Prop}
theorem Tm.Ok_name (k : Nat) : (Tm.name k).Ok S O ↔ True := by unfold Tm.Ok; rw [Tm.fold_name]
theorem Tm.Ok_sign (w : Str) (ps : List (Nat × Tm)) : (Tm.sign w ps).Ok S O ↔ S w (ps.map (·.1)) ∧ ∀ p ∈ ps, p.2.Ok S O := by
  unfold Tm.Ok; rw [Tm.fold_sign]; simp only [List.mem_map, forall_exists_index, and_imp, forall_apply_eq_imp_iff₂, List.map_map]; rfl
theorem Tm.Ok_hole (w : Str) (ts : List Tm) : (Tm.hole w ts).Ok S O ↔ O w ts.length ∧ ∀ t ∈ ts, t.Ok S O := by
  unfold Tm.Ok; rw [Tm.fold_hole]; simp only [List.mem_map, forall_exists_index, and_imp, forall_apply_eq_imp_iff₂, List.length_map]
theorem Tm.Ok.inner {t : Tm} (h : t.Ok S O) {p : Nat × Tm} (hp : p ∈ t.inner) : p.2.Ok S O := by
  cases t with
  | name k => simp [Tm.inner] at hp
  | sign w ps => exact ((Tm.Ok_sign w ps).mp h).2 p hp
  | hole w ts =>
    simp only [Tm.inner, List.mem_map] at hp
    obtain ⟨t, ht, rfl⟩ := hp
    exact ((Tm.Ok_hole w ts).mp h).2 t ht
theorem Tm.Ok.lay {t : Tm} (h : t.Ok S O) (hS : ∀ w l, S w l → PyData.strOk w = true) (hO : ∀ w l, O w l → PyData.strOk w = true) : t.Lay := by
  induction t using Tm.ind with
  | hn k => intro w hw; simp [Tm.words_name] at hw
  | hs w ps ih =>
    intro v hv
    rw [Tm.words_sign] at hv
    have h' := (Tm.Ok_sign w ps).mp h
    rcases List.mem_cons.mp hv with rfl | hv
    · exact hS _ _ h'.1
    · obtain ⟨l, hl, hv⟩ := List.mem_flatten.mp hv
      obtain ⟨p, hp, rfl⟩ := List.mem_map.mp hl
      exact ih p hp (h'.2 p hp) v hv
  | hh w ts ih =>
    intro v hv
    rw [Tm.words_hole] at hv
    have h' := (Tm.Ok_hole w ts).mp h
    rcases List.mem_cons.mp hv with rfl | hv
    · exact hO _ _ h'.1
    · obtain ⟨l, hl, hv⟩ := List.mem_flatten.mp hv
      obtain ⟨p, hp, rfl⟩ := List.mem_map.mp hl
      exact ih p hp (h'.2 p hp) v hv
end
theorem kitB_NoneType_bool : kitB "NoneType" "bool" = some false := by decide +kernel
theorem kitB_NoneType_int : kitB "NoneType" "int" = some false := by decide +kernel
theorem kitB_NoneType_str : kitB "NoneType" "str" = some false := by decide +kernel
theorem kitB_NoneType_tuple : kitB "NoneType" "tuple" = some false := by decide +kernel
theorem kitB_NoneType_list : kitB "NoneType" "list" = some false := by decide +kernel
theorem kitB_NoneType_dict : kitB "NoneType" "dict" = some false := by decide +kernel
theorem kitB_bool_bool : kitB "bool" "bool" = some true := by decide +kernel
theorem kitB_bool_int : kitB "bool" "int" = some true := by decide +kernel
theorem kitB_bool_str : kitB "bool" "str" = some false := by decide +kernel
theorem kitB_bool_tuple : kitB "bool" "tuple" = some false := by decide +kernel
theorem kitB_bool_list : kitB "bool" "list" = some false := by decide +kernel
theorem kitB_bool_dict : kitB "bool" "dict" = some false := by decide +kernel
theorem kitB_int_bool : kitB "int" "bool" = some false := by decide +kernel
theorem kitB_int_int : kitB "int" "int" = some true := by decide +kernel
theorem kitB_int_str : kitB "int" "str" = some false := by decide +kernel
theorem kitB_int_tuple : kitB "int" "tuple" = some false := by decide +kernel
theorem kitB_int_list : kitB "int" "list" = some false := by decide +kernel
theorem kitB_int_dict : kitB "int" "dict" = some false := by decide +kernel
theorem kitB_str_bool : kitB "str" "bool" = some false := by decide +kernel
theorem kitB_str_int : kitB "str" "int" = some false := by decide +kernel
theorem kitB_str_str : kitB "str" "str" = some true := by decide +kernel
theorem kitB_str_tuple : kitB "str" "tuple" = some false := by decide +kernel
theorem kitB_str_list : kitB "str" "list" = some false := by decide +kernel
theorem kitB_str_dict : kitB "str" "dict" = some false := by decide +kernel
theorem kitB_tuple_bool : kitB "tuple" "bool" = some false := by decide +kernel
theorem kitB_tuple_int : kitB "tuple" "int" = some false := by decide +kernel
theorem kitB_tuple_str : kitB "tuple" "str" = some false := by decide +kernel
theorem kitB_tuple_tuple : kitB "tuple" "tuple" = some true := by decide +kernel
theorem kitB_tuple_list : kitB "tuple" "list" = some false := by decide +kernel
theorem kitB_tuple_dict : kitB "tuple" "dict" = some false := by decide +kernel
theorem kitB_list_bool : kitB "list" "bool" = some false := by decide +kernel
theorem kitB_list_int : kitB "list" "int" = some false := by decide +kernel
theorem kitB_list_str : kitB "list" "str" = some false := by decide +kernel
theorem kitB_list_tuple : kitB "list" "tuple" = some false := by decide +kernel
theorem kitB_list_list : kitB "list" "list" = some true := by decide +kernel
theorem kitB_list_dict : kitB "list" "dict" = some false := by decide +kernel
theorem kitB_dict_bool : kitB "dict" "bool" = some false := by decide +kernel
theorem kitB_dict_int : kitB "dict" "int" = some false := by decide +kernel
theorem kitB_dict_str : kitB "dict" "str" = some false := by decide +kernel
theorem kitB_dict_tuple : kitB "dict" "tuple" = some false := by decide +kernel
theorem kitB_dict_list : kitB "dict" "list" = some false := by decide +kernel
theorem kitB_dict_dict : kitB "dict" "dict" = some true := by decide +kernel
theorem fits_of {x : Int} (h1 : -4000000000 ≤ x) (h2 : x ≤ 4000000000) : Builtin.Range.rangeFitsLong x = true := by
  unfold Builtin.Range.rangeFitsLong
  simp
  omega
theorem size_of {a b c : Int} (ha : 0 ≤ a) (ha2 : a ≤ 1000000) (hb : 0 ≤ b) (hb2 : b ≤ 1000000) (hc : 0 < c) (hc2 : c ≤ 1000000) : 0 ≤ Builtin.Range.rangeSize a b c ∧ Builtin.Range.rangeSize a b c ≤ 1000000 := by
  unfold Builtin.Range.rangeSize
  rw [if_pos hc]
  split
  · have h1 : 0 ≤ (b - a - 1) / c := Int.ediv_nonneg (by omega) (by omega)
    have h2 : (b - a - 1) / c ≤ b - a - 1 := Int.ediv_le_self _ (by omega)
    omega
  · omega
theorem small_of {a b c : Int} (ha : 0 ≤ a) (ha2 : a ≤ 1000000) (hb : 0 ≤ b) (hb2 : b ≤ 1000000) (hc : 0 < c) (hc2 : c ≤ 1000000) : Builtin.Range.small a b c = true := by
  have h := size_of ha ha2 hb hb2 hc hc2
  unfold Builtin.Range.small
  rw [fits_of (by omega) (by omega), fits_of (by omega) (by omega), fits_of (by omega) (by omega), fits_of (by omega) (by omega), if_pos hc, fits_of (by omega) (by omega)]
  simp
theorem rg3_of {a b c : Int} (ha : 0 ≤ a) (ha2 : a ≤ 1000000) (hb : 0 ≤ b) (hb2 : b ≤ 1000000) (hc : 0 < c) (hc2 : c ≤ 1000000) : rg3Ok a b c = true := by
  have h := size_of ha ha2 hb hb2 hc hc2
  unfold rg3Ok rgLen
  rw [small_of ha ha2 hb hb2 hc hc2]
  simp [sizeLine_val]
  omega
end HF

end
section
set_option Elab.async false
set_option linter.all false
set_option maxRecDepth 20000
set_option autoImplicit false
namespace HF
open PySem PySem.Spec PyProof.Rows L2
theorem inner_ok (t : Tm) (h : List PO) : f_inner_terms [t.enc] h = .ok (.fr (.lst (t.inner.map encP))) h := by
  cases t with
  | name k => simp [f_inner_terms, runDef, b_inner_terms, Tm.enc_name, Tm.inner, atI_0, atI_1, atI_2, str_ns, str_nh, str_sn, str_sh, str_hn, str_hs]
  | sign w ps => simp [f_inner_terms, runDef, b_inner_terms, Tm.enc_sign, Tm.inner, atI_0, atI_1, atI_2, str_ns, str_nh, str_sn, str_sh, str_hn, str_hs]
  | hole w ts => 
    simp [f_inner_terms, runDef, b_inner_terms, Tm.enc_hole, Tm.inner, atI_0, atI_1, atI_2, str_ns, str_nh, str_sn, str_sh, str_hn, str_hs]
    rw [lcL_map0 _ Tm.enc (fun t => encP (0, t))]
    · simp
    · intro y hy; simp [encP]
theorem linner_ok (t : Tm) (h : List PO) : f_law_inner [t.enc] h = .ok (.fr (.lst (t.inner.map encP))) h := inner_ok t h
/-- the least scope -/
def imax : List Int → Int
  | [] => 0
  | n :: ns => max n (imax ns)
theorem imax_nonneg : ∀ ns : List Int, 0 ≤ imax ns
  | [] => Int.le_refl _
  | n :: ns => by unfold imax; have := imax_nonneg ns; omega
theorem maxOf_imax : ∀ ns : List Int, maxOf (ns ++ [0]) = imax ns
  | [] => rfl
  | [n] => rfl
  | n :: m :: ns => by
    have := maxOf_imax (m :: ns)
    show max n (maxOf (m :: ns ++ [0])) = max n (imax (m :: ns))
    rw [this]
def Tm.least : Tm → Int := Tm.fold (fun k => k + 1) (fun _ ps => imax (ps.map fun p => p.2 - p.1)) (fun _ ts => imax ts)
theorem least_name (k : Nat) : (Tm.name k).least = k + 1 := Tm.fold_name ..
theorem least_node {t : Tm} (h : ∀ k, t ≠ .name k) : t.least = imax (t.inner.map fun p => p.2.least - p.1) := by
  cases t with
  | name k => exact absurd rfl (h k)
  | sign w ps => simp [Tm.least, Tm.fold_sign, Tm.inner, Function.comp_def]
  | hole w ts => simp [Tm.least, Tm.fold_hole, Tm.inner, Function.comp_def]
theorem least_ok : ∀ (n : Nat) (t : Tm) (h : List PO), t.depth ≤ n → t.size ≤ 100000 → f_least_scope n [t.enc] h = .ok (.v (.int t.least)) h
  | 0, t, h, hd, _ => by rw [Tm.depth_eq] at hd; omega
  | n + 1, t, h, hd, hs => by
    have ih : ∀ p ∈ t.inner, f_least_scope n [p.2.enc] h = .ok (.v (.int p.2.least)) h := fun p hp => least_ok n p.2 h (by have := Tm.depth_lt hp; omega) (by have := Tm.size_lt hp; omega)
    have hl := t.inner_len
    have hi := inner_ok t h
    have node : (∀ k, t ≠ .name k) → ∀ s a, t.enc = .tup (.str s :: a) → (s = Str.ofString "name") = False → f_least_scope (n + 1) [t.enc] h = .ok (.v (.int t.least)) h := by
      intro hk s a ha hsn
      rw [least_node hk]
      unfold f_least_scope runDef b_least_scope
      simp [ha, atI_0, hsn]
      rw [← ha, hi]
      simp only
      rw [lcL_map0 _ encP (fun p => .int (p.2.least - p.1))]
      · have e1 := asInts_snoc _ _ 0 (asInts_fun (fun p : Nat × Tm => p.2.least - p.1) t.inner)
        have e2 : t.inner.length + 1 ≤ sizeLine := by rw [sizeLine_val]; omega
        simp [e2, e1]
        cases e3 : t.inner with
        | nil => rfl
        | cons p ps => 
          simp
          have := maxOf_imax ((p :: ps).map fun p : Nat × Tm => p.2.least - p.1)
          simpa using this
      · intro p hp
        have := ih p hp
        simp [encP, this]
    cases t with
    | name k => 
      unfold f_least_scope runDef b_least_scope
      simp [Tm.enc_name, atI_0, atI_1, least_name]
    | sign w ps => exact node (fun k => by simp) _ _ (Tm.enc_sign w ps) str_sn
    | hole w ps => exact node (fun k => by simp) _ _ (Tm.enc_hole w ps) str_hn
end HF

end
section
set_option Elab.async false
set_option linter.all false
set_option maxRecDepth 20000
set_option autoImplicit false
namespace HF
open PySem PySem.Spec PyProof.Rows L2
/-! the drawing of terms -/
def mixI (c p : Int) : Int := ((c % 10 ^ 60 + 1) * (48271 + 130 * p) % 2147483647) * ((c % 10 ^ 60 + 1) * (48271 + 130 * p) % 2147483647) % 2147483629
theorem mixI_lo (c p : Int) : 0 ≤ mixI c p := Int.emod_nonneg _ (by omega)
theorem mixI_hi (c p : Int) : mixI c p < 2147483629 := Int.emod_lt_of_pos _ (by omega)
theorem cell_ok (ns : List Int) (k : Nat) (h : List PO) (hn : ns.length ≤ 1000) : f_law_cell_at [.rol (ns.map .int), .int k] h = .ok (.v (.int (ns[k]?.getD 0))) h := by
  have e1 : ns.length ≤ sizeLine := by rw [sizeLine_val]; omega
  unfold f_law_cell_at runDef b_law_cell_at
  by_cases lt : k < ns.length
  · simp [atI_nat, lt, e1]
  · simp [atI_nat, lt, e1]
theorem mix_ok (c p : Int) (h : List PO) (h1 : 0 ≤ p) (h2 : p ≤ 100000) : f_law_mix [.int c, .int p] h = .ok (.v (.int (mixI c p))) h := by
  have g1 : (48271 + 130 * p).natAbs < 2 ^ 64 := by omega
  have g2 : ((c % 10 ^ 60 + 1) * (48271 + 130 * p) % 2147483647).natAbs < 2 ^ 64 := by
    have := Int.emod_nonneg ((c % 10 ^ 60 + 1) * (48271 + 130 * p)) (b := 2147483647) (by omega)
    have := Int.emod_lt_of_pos ((c % 10 ^ 60 + 1) * (48271 + 130 * p)) (b := 2147483647) (by omega)
    omega
  unfold f_law_mix runDef b_law_mix mixI
  have g3 : p.natAbs < 2 ^ 64 := by omega
  simp at g1 g2 g3
  simp [g1, g2, g3]

theorem cutP_take {α : Type} (xs : List α) (k : Nat) : cutP xs none (some (k : Int)) = xs.take k := by
  unfold cutP
  rw [HT.sIx_nat, HT.sIx_none, List.drop_zero, Nat.sub_zero]
  by_cases h : k ≤ xs.length
  · rw [Nat.min_eq_left h]
  · rw [Nat.min_eq_right (by omega), List.take_of_length_le (by omega), List.take_of_length_le (by omega)]
theorem cutP_drop {α : Type} (xs : List α) (k : Nat) : cutP xs (some (k : Int)) none = xs.drop k := by
  unfold cutP
  rw [HT.sIx_nat, HT.sIx_none]
  by_cases h : k ≤ xs.length
  · rw [Nat.min_eq_left h, List.take_of_length_le (by simp)]
  · rw [Nat.min_eq_right (by omega), List.drop_of_length_le (by omega), List.drop_of_length_le (by omega)]; simp
theorem cutP_lit_take {α : Type} (xs : List α) (k : Nat) : cutP xs none (some (@OfNat.ofNat Int k _)) = xs.take k := cutP_take xs k
theorem cutP_lit_drop {α : Type} (xs : List α) (k : Nat) : cutP xs (some (@OfNat.ofNat Int k _)) none = xs.drop k := cutP_drop xs k
theorem cutP_1_drop {α : Type} (xs : List α) : cutP xs (some 1) none = xs.drop 1 := cutP_drop xs 1
theorem cutP_1_take {α : Type} (xs : List α) : cutP xs none (some 1) = xs.take 1 := cutP_take xs 1
theorem cutS_take (l : List Nat) (k : Nat) : cutS ⟨l.toArray⟩ none (some (k : Int)) = ⟨(l.take k).toArray⟩ := by
  have := cutP_take l k
  unfold cutP at this
  unfold cutS
  simp only [Str.length, List.size_toArray, List.toList_toArray]
  simp only [this]
theorem cutS_drop (l : List Nat) (k : Nat) : cutS ⟨l.toArray⟩ (some (k : Int)) none = ⟨(l.drop k).toArray⟩ := by
  have := cutP_drop l k
  unfold cutP at this
  unfold cutS
  simp only [Str.length, List.size_toArray, List.toList_toArray]
  simp only [this]
theorem str_app (a b : List Nat) : (⟨a.toArray⟩ : Str) ++ (⟨b.toArray⟩ : Str) = ⟨(a ++ b).toArray⟩ := by
  show Str.append _ _ = _
  simp [Str.append]
theorem str_app1 (a : List Nat) (x : Nat) : (⟨a.toArray⟩ : Str) ++ (⟨#[x]⟩ : Str) = ⟨(a ++ [x]).toArray⟩ := str_app a [x]
theorem str_len (a : List Nat) : (⟨a.toArray⟩ : Str).length = a.length := by simp [Str.length]
theorem str_len1 (x : Nat) : (⟨#[x]⟩ : Str).length = 1 := rfl
theorem join_chars (a : Str) (h : a.cps = #[]) : ∀ cs : List Nat, Txt.join a (cs.map fun c => ⟨#[c]⟩) = ⟨cs.toArray⟩ := by
  intro cs
  rw [eq_of_beq (PyProof.Rows.join_plain_closes a (cs.map fun c => ⟨#[c]⟩))]
  induction cs with
  | nil => rfl
  | cons c cs ih =>
    cases cs with
    | nil => rfl
    | cons d ds =>
      simp only [List.map_cons] at ih ⊢
      show ((⟨#[c]⟩ : Str) ++ a) ++ Str.join a _ = _
      rw [ih]
      show Str.append (Str.append _ _) _ = _
      simp [Str.append, h]
def lenW (c : Int) : Nat := (2 + mixI c 1 % 7).toNat
theorem lenW_eq (c : Int) : (lenW c : Int) = 2 + mixI c 1 % 7 := by unfold lenW; omega
def stemL (c : Int) : List Nat := (List.range (lenW c)).map fun (k : Nat) => 97 + (mixI c (2 + (k : Int)) % 26).toNat
def spotW (c : Int) : Nat := (mixI c 11 % lenW c).toNat
def wordL (c : Int) (k : Nat) : List Nat := (stemL c).take (spotW c) ++ ([97 + ((mixI c 12 + 7 * k) % 26).toNat] ++ (stemL c).drop (spotW c + 1))
def wordS (c : Int) (k : Nat) : Str := ⟨(wordL c k).toArray⟩
theorem abc_at (i : Int) (h1 : 0 ≤ i) (h2 : i < 26) : atI (Str.ofString "abcdefghijklmnopqrstuvwxyz").cps.toList i = some (97 + i.toNat) := by
  obtain ⟨n, rfl⟩ := Int.eq_ofNat_of_zero_le h1
  rw [atI_nat]
  have : (Str.ofString "abcdefghijklmnopqrstuvwxyz").cps.toList = (List.range 26).map (97 + ·) := by decide +kernel
  rw [this]
  have : n < 26 := by omega
  simp [this]
theorem abc_mod (x : Int) : atI (Str.ofString "abcdefghijklmnopqrstuvwxyz").cps.toList (x % 26) = some (97 + (x % 26).toNat) := abc_at _ (Int.emod_nonneg _ (by omega)) (Int.emod_lt_of_pos _ (by omega))
theorem asStrs_fun {α : Type} (g : α → Str) : ∀ ys : List α, asStrs (ys.map fun y => .str (g y)) = some (ys.map g)
  | [] => rfl
  | y :: ys => by simp [asStrs_fun g ys]
theorem ofString_empty : Str.ofString "" = ⟨#[]⟩ := by decide +kernel
theorem abc_len : (Str.ofString "abcdefghijklmnopqrstuvwxyz").length = 26 := by decide +kernel
theorem words_ok (c : Int) (n : Nat) (h : List PO) (hn : n ≤ 1000) : f_law_words [.int c, .int n] h = .ok (.fr (.lst ((List.range n).map fun k => .str (wordS c k)))) h := by
  have m := fun p (h1 : 0 ≤ p) (h2 : p ≤ 100000) => mix_ok c p h h1 h2
  have h7 : 0 ≤ mixI c 1 % 7 ∧ mixI c 1 % 7 < 7 := ⟨Int.emod_nonneg _ (by omega), Int.emod_lt_of_pos _ (by omega)⟩
  unfold f_law_words runDef b_law_words
  have g1 : (2 + mixI c 1 % 7).natAbs < 4611686018427387904 := by omega
  have g2 : (2 + mixI c 1 % 7).toNat ≤ sizeLine := by rw [sizeLine_val]; omega
  simp [m, g1, g2]
  rw [lcL_map0 _ (fun i : Nat => PV.int i) (fun k : Nat => .str ⟨#[97 + (mixI c (2 + (k : Int)) % 26).toNat]⟩)]
  · have e1 := asStrs_fun (fun k : Nat => (⟨#[97 + (mixI c (2 + (k : Int)) % 26).toNat]⟩ : Str)) (List.range (2 + mixI c 1 % 7).toNat)
    have e2 : Txt.join (Str.ofString "") ((List.range (2 + mixI c 1 % 7).toNat).map (fun k : Nat => (⟨#[97 + (mixI c (2 + (k : Int)) % 26).toNat]⟩ : Str))) = ⟨(stemL c).toArray⟩ := by
      rw [← join_chars (Str.ofString "") (by rw [ofString_empty]), stemL, List.map_map]; rfl
    have e3 : (((List.range (2 + mixI c 1 % 7).toNat).map (fun k : Nat => (⟨#[97 + (mixI c (2 + (k : Int)) % 26).toNat]⟩ : Str))).map (·.length)).sum ≤ 16777216 := by
      rw [List.map_map]
      have : ∀ l : List Nat, ((l.map ((fun x : Str => x.length) ∘ fun k : Nat => (⟨#[97 + (mixI c (2 + (k : Int)) % 26).toNat]⟩ : Str)))).sum = l.length := by
        intro l; induction l with
        | nil => rfl
        | cons a l ih => simp only [List.map_cons, List.sum_cons, ih, List.length_cons]; simp [Str.length]; omega
      rw [this]; simp; omega
    have e4 : (Str.ofString "").length = 0 := by decide +kernel
    simp at e3
    have l1 := lenW_eq c
    have l2 : (2 + mixI c 1 % 7 : Int) > 0 := by omega
    have hsp : mixI c 11 % (2 + mixI c 1 % 7) = (spotW c : Int) := by
      unfold spotW; rw [l1, Int.toNat_of_nonneg (Int.emod_nonneg _ (by omega))]
    have hst : (stemL c).length ≤ sizeLine := by rw [sizeLine_val, stemL]; simp; omega
    have hn2 : n ≤ sizeLine := by rw [sizeLine_val]; omega
    have g5 : (n : Int).natAbs < 4611686018427387904 := by omega
    have l3 : 0 < 2 + mixI c 1 % 7 := l2
    have g5 : n < 4611686018427387904 := by omega
    simp [e1, e2, e3, e4, m, l3, hsp, hn2, g5]
    rw [lcL_map0 _ (fun i : Nat => PV.int i) (fun k : Nat => .str (wordS c k))]
    · simp
    · intro k hk
      have hk' := List.mem_range.mp hk
      have g6 : (k : Int).natAbs < 2 ^ 64 := by omega
      have g4 : 26 ≤ sizeLine := by rw [sizeLine_val]; omega
      have g7 := cutS_drop (stemL c) (spotW c + 1)
      simp at g6 g7
      have hst' : (⟨(stemL c).toArray⟩ : Str).length ≤ sizeLine := by simpa [Str.length] using hst
      have g6 : k < 18446744073709551616 := by omega
      have g8 : (stemL c).length ≤ 8 := by rw [stemL]; simp; omega
      have g9 : min (spotW c) (stemL c).length + 1 ≤ sizeLine := by rw [sizeLine_val]; omega
      have g10 : min (spotW c) (stemL c).length + 1 + ((stemL c).length - (spotW c + 1)) ≤ sizeLine := by rw [sizeLine_val]; omega
      simp [abc_mod, abc_len, g4, g6, hst', cutS_take, g7, str_app, str_app1, str_len, str_len1, g9, g10, hst, wordS, wordL]
  · intro k hk
    have hk' := List.mem_range.mp hk
    have g3 := m (2 + (k : Int)) (by omega) (by omega)
    have g4 : 26 ≤ sizeLine := by rw [sizeLine_val]; omega
    simp [g3, abc_mod, abc_len, g4]
end HF

end
section
set_option Elab.async false
set_option linter.all false
set_option maxRecDepth 20000
set_option autoImplicit false
namespace HF
open PySem PySem.Spec PyProof.Rows L2
theorem wordS_ok (c : Int) (k : Nat) : PyData.strOk (wordS c k) = true := by
  have h1 : ∀ x ∈ stemL c, x < 1114112 := by
    intro x hx
    unfold stemL at hx
    obtain ⟨m, _, rfl⟩ := List.mem_map.mp hx
    have := Int.emod_lt_of_pos (mixI c (2 + m)) (b := 26) (by omega)
    omega
  have h2 := Int.emod_lt_of_pos (mixI c 12 + 7 * k) (b := 26) (by omega)
  unfold PyData.strOk wordS
  simp only [List.all_toArray, List.all_eq_true, decide_eq_true_eq]
  intro x hx
  unfold wordL at hx
  rcases List.mem_append.mp hx with hx | hx
  · exact h1 x (List.mem_of_mem_take hx)
  · rcases List.mem_append.mp hx with hx | hx
    · simp at hx; omega
    · exact h1 x (List.mem_of_mem_drop hx)
def freeI (c p : Int) : Int := if c % 2 = 0 then c / 2 % 10 ^ 60 else mixI (c / 2) p
theorem freeI_lo (c p : Int) : 0 ≤ freeI c p := by
  unfold freeI
  split
  · exact Int.emod_nonneg _ (by omega)
  · exact mixI_lo _ _
theorem free_ok (c p : Int) (h : List PO) (h1 : 0 ≤ p) (h2 : p ≤ 100000) : f_law_free [.int c, .int p] h = .ok (.v (.int (freeI c p))) h := by
  have m := mix_ok (c / 2) p h h1 h2
  unfold f_law_free runDef b_law_free freeI
  by_cases e : c % 2 = 0
  · simp [e]
  · simp [e, m]
def leafT (n : Int) (s : Nat) (ws : List Str) : Tm := if 0 < s ∧ n % 3 < 2 then .name (n / 3 % s).toNat else .sign (ws[(n / 3 % 2).toNat]?.getD ⟨#[]⟩) []
theorem leaf_ok (n : Int) (s : Nat) (ws : List Str) (h : List PO) (hn : 0 ≤ n) (hw : 2 ≤ ws.length) : f_law_leaf [.int n, .int s, .lst (ws.map .str)] h = .ok (.v (leafT n s ws).enc) h := by
  unfold f_law_leaf runDef b_law_leaf leafT
  by_cases e : 0 < s ∧ n % 3 < 2
  · have e2 : ((n / 3 % s).toNat : Int) = n / 3 % s := Int.toNat_of_nonneg (Int.emod_nonneg _ (by omega))
    rw [if_pos e, Tm.enc_name, e2]
    simp [e.1, e.2]
  · have e2 : ((n / 3 % 2).toNat : Int) = n / 3 % 2 := Int.toNat_of_nonneg (Int.emod_nonneg _ (by omega))
    have e3 : (n / 3 % 2).toNat < ws.length := by omega
    have e4 := atI_nat (ws.map PV.str) (n / 3 % 2).toNat
    rw [e2] at e4
    rw [if_neg e, Tm.enc_sign]
    by_cases e5 : 0 < s
    · have e6 : ¬ n % 3 < 2 := fun z => e ⟨e5, z⟩
      simp [e5, e6, e4, e3]
    · simp [e5, e4, e3]
end HF

end
section
set_option Elab.async false
set_option linter.all false
set_option maxRecDepth 20000
set_option autoImplicit false
namespace HF
open PySem PySem.Spec PyProof.Rows L2
def sizeB : Nat → Nat
  | 0 => 1
  | d + 1 => 1 + 3 * sizeB d
structure Drawn (S : Str → List Nat → Prop) (O : Str → Nat → Prop) (s d : Nat) (t : Tm) : Prop where
  scope : t.In s
  depth : t.depth ≤ d + 1
  size : t.size ≤ sizeB d
  ok : t.Ok S O
def holeV (p : Str × Nat) : PV := .tup [.str p.1, .int p.2]
def SW (ws : List Str) (w : Str) (l : List Nat) : Prop := w ∈ ws ∧ l.length ≤ 3 ∧ ∀ n ∈ l, n ≤ 2
def OW (hs : List (Str × Nat)) (w : Str) (l : Nat) : Prop := (w, l) ∈ hs
theorem leaf_drawn (n : Int) (s d : Nat) (ws : List Str) (hs : List (Str × Nat)) (hw : 2 ≤ ws.length) : Drawn (SW ws) (OW hs) s d (leafT n s ws) := by
  have hd : 1 ≤ sizeB d := by cases d <;> simp [sizeB]
  unfold leafT
  split
  · rename_i e
    have h1 := Int.emod_nonneg (n / 3) (b := (s : Int)) (by omega)
    have h2 := Int.emod_lt_of_pos (n / 3) (b := (s : Int)) (by omega)
    refine ⟨(Tm.In_name _ _).mpr (by omega), ?_, ?_, (Tm.Ok_name _).mpr trivial⟩
    · rw [Tm.depth_eq]; simp [Tm.inner, nmax]
    · rw [Tm.size_eq]; simpa [Tm.inner] using hd
  · have e3 : (n / 3 % 2).toNat < ws.length := by omega
    refine ⟨(Tm.In_sign _ _ _).mpr (by simp), ?_, ?_, (Tm.Ok_sign _ _).mpr ⟨⟨?_, by simp, by simp⟩, by simp⟩⟩
    · rw [Tm.depth_eq]; simp [Tm.inner, nmax]
    · rw [Tm.size_eq]; simpa [Tm.inner] using hd
    · simp [e3]
theorem sum_le_mul {b : Nat} : ∀ {l : List Nat}, (∀ x ∈ l, x ≤ b) → l.sum ≤ l.length * b
  | [], _ => by simp
  | x :: l, h => by
    have h1 := h x List.mem_cons_self
    have h2 := sum_le_mul (l := l) fun y hy => h y (List.mem_cons_of_mem _ hy)
    simp only [List.sum_cons, List.length_cons, Nat.add_mul]
    omega
theorem drawn_node {S : Str → List Nat → Prop} {O : Str → Nat → Prop} {s d : Nat} {t : Tm} (hl : t.inner.length ≤ 3) (hi : ∀ p ∈ t.inner, Drawn S O (s + p.1) d p.2) (hs : t.In s) (ho : t.Ok S O) : Drawn S O s (d + 1) t := by
  refine ⟨hs, ?_, ?_, ho⟩
  · rw [Tm.depth_eq]
    have : nmax (t.inner.map fun p => p.2.depth) ≤ d + 1 := nmax_le fun m hm => by
      obtain ⟨p, hp, rfl⟩ := List.mem_map.mp hm
      exact (hi p hp).depth
    omega
  · rw [Tm.size_eq]
    have h1 : (t.inner.map fun p => p.2.size).sum ≤ (t.inner.map fun p => p.2.size).length * sizeB d := sum_le_mul fun m hm => by
      obtain ⟨p, hp, rfl⟩ := List.mem_map.mp hm
      exact (hi p hp).size
    rw [List.length_map] at h1
    have h2 := Nat.mul_le_mul_right (sizeB d) hl
    simp only [sizeB]
    omega
theorem loop_hole (F : Fn) (cs0 ws hs d0 v w1 mm ww : PV) (n : Nat) (s d m : Nat) (h : List PO) (all : List PV) (S : Str → List Nat → Prop) (O : Str → Nat → Prop) (hm : m ≤ 3) (N : Nat)
    (hF : ∀ cs : List Int, cs.length ≤ N → ∃ (t : Tm) (rest : List Int), F [.lst (cs.map .int), .int s, ws, hs, .int d] h = .ok (.v (.tup [t.enc, .lst (rest.map .int)])) h ∧ rest.length ≤ cs.length ∧ Drawn S O s d t) (cs : List Int) (hc : cs.length ≤ N) :
    ∃ (acc : List Tm) (rest : List Int), forL (.v .non) all (.nm 9) (b_law_term_1 F) [9, 13] ((List.range m).map fun i : Nat => .int (i : Int)) ⟨[some (.v cs0), some (.v (.int s)), some (.v ws), some (.v hs), some (.v (.int (d + 1))), some (.v v), some (.v (.lst (cs.map .int))), some (.v w1), none, none, some (.own (.lst [])), some (.v mm), some (.v ww), none], h⟩
      = .nx ⟨[some (.v cs0), some (.v (.int s)), some (.v ws), some (.v hs), some (.v (.int (d + 1))), some (.v v), some (.v (.lst (rest.map .int))), some (.v w1), none, none, some (.own (.lst (acc.map Tm.enc))), some (.v mm), some (.v ww), none], h⟩ ∧ acc.length = m ∧ rest.length ≤ cs.length ∧ ∀ t ∈ acc, Drawn S O s d t := by
  refine forL_inv (e := .v .non) (k := fun i : Nat => PV.int (i : Int)) (I := fun ys M => ∃ (acc : List Tm) (rest : List Int), M = ⟨[some (.v cs0), some (.v (.int s)), some (.v ws), some (.v hs), some (.v (.int (d + 1))), some (.v v), some (.v (.lst (rest.map .int))), some (.v w1), none, none, some (.own (.lst (acc.map Tm.enc))), some (.v mm), some (.v ww), none], h⟩ ∧ acc.length + ys.length = m ∧ rest.length ≤ cs.length ∧ ∀ t ∈ acc, Drawn S O s d t)
    (Q := fun r => ∃ (acc : List Tm) (rest : List Int), r = .nx ⟨[some (.v cs0), some (.v (.int s)), some (.v ws), some (.v hs), some (.v (.int (d + 1))), some (.v v), some (.v (.lst (rest.map .int))), some (.v w1), none, none, some (.own (.lst (acc.map Tm.enc))), some (.v mm), some (.v ww), none], h⟩ ∧ acc.length = m ∧ rest.length ≤ cs.length ∧ ∀ t ∈ acc, Drawn S O s d t) ?_ ?_ _ _ ⟨[], cs, rfl, by simp, Nat.le_refl _, by simp⟩
  · rintro y ys M ⟨acc, rest, rfl, hl, hr, ht⟩
    obtain ⟨t, rest', e, hr', dr⟩ := hF rest (by omega)
    refine ⟨trivial, .inl ⟨_, ?_, acc ++ [t], rest', rfl, by simp at hl ⊢; omega, by omega, ?_⟩⟩
    · have g : acc.length < sizeLine := by rw [sizeLine_val]; simp at hl; omega
      unfold b_law_term_1
      simp [e, g]
    · intro x hx
      rcases List.mem_append.mp hx with hx | hx
      · exact ht x hx
      · simp at hx; subst hx; exact dr
  · rintro M ⟨acc, rest, rfl, hl, hr, ht⟩
    exact ⟨trivial, acc, rest, rfl, by simpa using hl, hr, ht⟩
theorem pick4 (x : Int) : ∃ k : Nat, k ≤ 2 ∧ atI [PV.int 0, .int 0, .int 1, .int 2] (x % 4) = some (.int k) := by
  have h1 := Int.emod_nonneg x (b := 4) (by omega)
  have h2 := Int.emod_lt_of_pos x (b := 4) (by omega)
  obtain ⟨n, hn⟩ := Int.eq_ofNat_of_zero_le h1
  rw [hn, atI_nat]
  have : n = 0 ∨ n = 1 ∨ n = 2 ∨ n = 3 := by omega
  rcases this with rfl | rfl | rfl | rfl
  · exact ⟨0, by omega, rfl⟩
  · exact ⟨0, by omega, rfl⟩
  · exact ⟨1, by omega, rfl⟩
  · exact ⟨2, by omega, rfl⟩
theorem loop_sign (F : Fn) (cs0 ws hs w1 : PV) (u : Int) (n : Nat) (s d m : Nat) (h : List PO) (all : List PV) (S : Str → List Nat → Prop) (O : Str → Nat → Prop) (hm : m ≤ 3) (N : Nat)
    (hF : ∀ (cs : List Int) (k : Nat), cs.length ≤ N → ∃ (t : Tm) (rest : List Int), F [.lst (cs.map .int), .int ((s : Int) + (k : Int)), ws, hs, .int d] h = .ok (.v (.tup [t.enc, .lst (rest.map .int)])) h ∧ rest.length ≤ cs.length ∧ Drawn S O (s + k) d t) (cs : List Int) (hc : cs.length ≤ N) :
    ∃ (acc : List (Nat × Tm)) (rest : List Int), forL (.v .non) all (.nm 9) (b_law_term_2 F) [9, 11, 13] ((List.range m).map fun i : Nat => .int (i : Int)) ⟨[some (.v cs0), some (.v (.int s)), some (.v ws), some (.v hs), some (.v (.int (d + 1))), some (.v (.int u)), some (.v (.lst (cs.map .int))), some (.v w1), some (.own (.lst [])), none, none, none, none, none], h⟩
      = .nx ⟨[some (.v cs0), some (.v (.int s)), some (.v ws), some (.v hs), some (.v (.int (d + 1))), some (.v (.int u)), some (.v (.lst (rest.map .int))), some (.v w1), some (.own (.lst (acc.map encP))), none, none, none, none, none], h⟩ ∧ acc.length = m ∧ rest.length ≤ cs.length ∧ ∀ p ∈ acc, p.1 ≤ 2 ∧ Drawn S O (s + p.1) d p.2 := by
  refine forL_inv (e := .v .non) (k := fun i : Nat => PV.int (i : Int)) (I := fun ys M => ∃ (acc : List (Nat × Tm)) (rest : List Int), M = ⟨[some (.v cs0), some (.v (.int s)), some (.v ws), some (.v hs), some (.v (.int (d + 1))), some (.v (.int u)), some (.v (.lst (rest.map .int))), some (.v w1), some (.own (.lst (acc.map encP))), none, none, none, none, none], h⟩ ∧ (∃ xs, xs ++ ys = List.range m ∧ acc.length = xs.length) ∧ rest.length ≤ cs.length ∧ ∀ p ∈ acc, p.1 ≤ 2 ∧ Drawn S O (s + p.1) d p.2)
    (Q := fun r => ∃ (acc : List (Nat × Tm)) (rest : List Int), r = .nx ⟨[some (.v cs0), some (.v (.int s)), some (.v ws), some (.v hs), some (.v (.int (d + 1))), some (.v (.int u)), some (.v (.lst (rest.map .int))), some (.v w1), some (.own (.lst (acc.map encP))), none, none, none, none, none], h⟩ ∧ acc.length = m ∧ rest.length ≤ cs.length ∧ ∀ p ∈ acc, p.1 ≤ 2 ∧ Drawn S O (s + p.1) d p.2) ?_ ?_ _ _ ⟨[], cs, rfl, ⟨[], rfl, rfl⟩, Nat.le_refl _, by simp⟩
  · rintro y ys M ⟨acc, rest, rfl, ⟨xs, hxs, hl⟩, hr, ht⟩
    have hy : y < m := List.mem_range.mp (by rw [← hxs]; simp)
    have hlm : xs.length + (ys.length + 1) = m := by have := congrArg List.length hxs; simpa using this
    have g : acc.length < sizeLine := by rw [sizeLine_val]; omega
    obtain ⟨k, hk, e, hF'⟩ : ∃ k : Nat, k ≤ 2 ∧ (∃ q : Int, atI [PV.int 12, .int 48, .int 192] (y : Int) = some (.int q) ∧ 0 < q ∧ q < 1073741824 ∧ atI [PV.int 0, .int 0, .int 1, .int 2] (u / q % 4) = some (.int k)) ∧ True := by
      have : y = 0 ∨ y = 1 ∨ y = 2 := by omega
      rcases this with rfl | rfl | rfl
      · obtain ⟨k, hk, e⟩ := pick4 (u / 12); exact ⟨k, hk, ⟨12, rfl, by omega, by omega, e⟩, trivial⟩
      · obtain ⟨k, hk, e⟩ := pick4 (u / 48); exact ⟨k, hk, ⟨48, rfl, by omega, by omega, e⟩, trivial⟩
      · obtain ⟨k, hk, e⟩ := pick4 (u / 192); exact ⟨k, hk, ⟨192, rfl, by omega, by omega, e⟩, trivial⟩
    obtain ⟨q, e1, q1, q2, e2⟩ := e
    obtain ⟨t, rest', e, hr', dr⟩ := hF rest k (by omega)
    refine ⟨trivial, .inl ⟨_, ?_, acc ++ [(k, t)], rest', rfl, ⟨xs ++ [y], by simpa using hxs, by simp [hl]⟩, by omega, ?_⟩⟩
    · unfold b_law_term_2
      simp [e, g, e1, q1, q2, e2, encP]
    · intro x hx
      rcases List.mem_append.mp hx with hx | hx
      · exact ht x hx
      · simp at hx; subst hx; exact ⟨hk, dr⟩
  · rintro M ⟨acc, rest, rfl, ⟨xs, hxs, hl⟩, hr, ht⟩
    have hlm : xs.length = m := by have := congrArg List.length hxs; simpa using this
    exact ⟨trivial, acc, rest, rfl, by omega, hr, ht⟩
theorem term_ok (ws : List Str) (hs : List (Str × Nat)) (hw : 5 ≤ ws.length) (hw2 : ws.length ≤ 1000) (hh : hs.length ≤ 1000) (hh2 : ∀ p ∈ hs, p.2 ≤ 3) (hh3 : ∀ p ∈ hs, PyData.strOk p.1 = true) (h : List PO) : ∀ (n d : Nat) (cs : List Int) (s : Nat), d < n → cs.length ≤ 1000 →
    ∃ (t : Tm) (rest : List Int), f_law_term n [.lst (cs.map .int), .int s, .lst (ws.map .str), .lst (hs.map holeV), .int d] h = .ok (.v (.tup [t.enc, .lst (rest.map .int)])) h ∧ rest.length ≤ cs.length ∧ Drawn (SW ws) (OW hs) s d t
  | 0, d, cs, s, hd, _ => absurd hd (Nat.not_lt_zero _)
  | n + 1, d, cs, s, hd, hc => by
    have hz : sizeLine = 16777216 := sizeLine_val
    have fr := fun c p => free_ok c p h
    have lf := fun k (hk : 0 ≤ k) => leaf_ok k s ws h hk (by omega)
    have sh : SeqAt.shaped (.list (hs.map fun p => .tuple [.str p.1, .int p.2])) = true := shaped_list fun x hx => by
      obtain ⟨p, hp, rfl⟩ := List.mem_map.mp hx
      simp [PyData.canLay0, PyData.canLayAll0, PyData.depth, PyData.depthAll, hh3 p hp]
    have dh : toDs (hs.map holeV) = some (hs.map fun p => .tuple [.str p.1, .int p.2]) := toDs_map _ _ hs fun p hp => by simp [holeV, PV.toD, toDs]
    by_cases e0 : cs = [] ∨ d = 0
    · refine ⟨leafT (freeI (cs.take 1).sum 0) s ws, cs.drop 1, ?_, by simp, leaf_drawn _ _ _ _ _ (by omega)⟩
      have e1 : asInts ((cs.take 1).map .int) = some (cs.take 1) := asInts_map _
      unfold f_law_term runDef b_law_term
      have f1 := fr (cs.take 1).sum 0 (by omega) (by omega)
      have l1 := lf _ (freeI_lo (cs.take 1).sum 0)
      have ce : cs.isEmpty = decide (cs = []) := by cases cs <;> rfl
      by_cases ec : cs = []
      · subst ec
        simp at f1 l1
        simp [toDs, PV.toD, toDs_ints, shaped_ints, shaped_nil, eqv_nil, cutP_1_take, cutP_1_drop, f1, l1]
      · have ed : d = 0 := e0.resolve_left ec
        subst ed
        simp [toDs, PV.toD, toDs_ints, shaped_ints, shaped_nil, eqv_nil, ce, ec, cutP_1_take, cutP_1_drop, ← List.map_take, asInts_map, f1, l1]
    · have ce : cs.isEmpty = decide (cs = []) := by cases cs <;> rfl
      obtain ⟨c, cs', rfl⟩ : ∃ c cs', cs = c :: cs' := by
        cases cs with
        | nil => exact absurd (.inl rfl) e0
        | cons c cs' => exact ⟨c, cs', rfl⟩
      obtain ⟨d, rfl⟩ : ∃ e, d = e + 1 := by
        cases d with
        | zero => exact absurd (.inr rfl) e0
        | succ d => exact ⟨d, rfl⟩
      have f1 := fr c 1 (by omega) (by omega)
      have f2 := freeI_lo c 1
      have sc : SeqAt.shaped (.list (.int c :: cs'.map .int)) = true := shaped_ints (c :: cs')
      have hd0 : ¬ (d : Int) + 1 = 0 := by omega
      generalize hv : freeI c 1 = v at f1 f2
      by_cases ea : v % 8 < 2
      · refine ⟨leafT (v / 8) s ws, cs', ?_, by simp, leaf_drawn _ _ _ _ _ (by omega)⟩
        have l1 := lf (v / 8) (by omega)
        unfold f_law_term runDef b_law_term
        simp [toDs, PV.toD, toDs_ints, sc, shaped_nil, eqv_nil, ce, cutP_1_drop, f1, hd0, atI_0, ea, l1]
      · by_cases eb : v % 8 < 4 ∧ hs ≠ []
        · have hl : 0 < hs.length := List.length_pos_iff.mpr eb.2
          have j1 := Int.emod_nonneg (v / 8) (b := (hs.length : Int)) (by omega)
          have j2 := Int.emod_lt_of_pos (v / 8) (b := (hs.length : Int)) (by omega)
          obtain ⟨w, m, hj⟩ : ∃ w m, hs[(v / 8 % hs.length).toNat]? = some (w, m) := ⟨_, _, List.getElem?_eq_getElem (by omega)⟩
          have hm : (w, m) ∈ hs := List.mem_of_getElem? hj
          have hm3 : m ≤ 3 := hh2 _ hm
          have g1 : m < 4611686018427387904 := by omega
          have g2 : m ≤ sizeLine := by rw [sizeLine_val]; omega
          have hat : atI (hs.map holeV) (v / 8 % hs.length) = some (.tup [.str w, .int m]) := by
            have := atI_nat (hs.map holeV) (v / 8 % hs.length).toNat
            rw [Int.toNat_of_nonneg j1, List.getElem?_map, hj] at this
            exact this
          unfold f_law_term runDef b_law_term
          simp [hl, hat, g1, g2, toDs, PV.toD, toDs_ints, sc, shaped_nil, eqv_nil, ce, cutP_1_drop, f1, hd0, atI_0, ea, eb, dh, sh]
          obtain ⟨acc, rest, e, h1, h2, h3⟩ := loop_hole (f_law_term n) (.lst (.int c :: cs'.map .int)) (.lst (ws.map .str)) (.lst (hs.map holeV)) (.lst (hs.map holeV)) (.int (v / 8)) (.int (v % 8)) (.int m) (.str w) n s d m h ((List.range m).map fun i : Nat => .int (i : Int)) (SW ws) (OW hs) hm3 1000
            (fun cs2 hc2 => term_ok ws hs hw hw2 hh hh2 hh3 h n d cs2 s (by omega) hc2) cs' (by simp at hc; omega)
          rw [e]
          have g3 : acc.length ≤ sizeLine := by rw [sizeLine_val]; omega
          refine ⟨.hole w acc, rest, ?_, by omega, ?_⟩
          · simp [g3, Tm.enc_hole]
          · refine drawn_node (by simp [Tm.inner]; omega) (fun p hp => ?_) ((Tm.In_hole _ _ _).mpr fun t ht => (h3 t ht).scope) ((Tm.Ok_hole _ _).mpr ⟨by rw [h1]; exact hm, fun t ht => (h3 t ht).ok⟩)
            simp only [Tm.inner, List.mem_map] at hp
            obtain ⟨t, ht, rfl⟩ := hp
            exact h3 t ht
        · have eb' : v % 8 < 4 → hs = [] := fun z => Classical.byContradiction fun y => eb ⟨z, y⟩
          have m3 : (1 + v / 8 % 3).toNat ≤ 3 := by omega
          have g1 : (1 + v / 8 % 3).natAbs < 4611686018427387904 := by omega
          have g2 : 1 + v / 8 % 3 ≤ (sizeLine : Int) := by rw [sizeLine_val]; omega
          obtain ⟨acc, rest, e, h1, h2, h3⟩ := loop_sign (f_law_term n) (.lst (.int c :: cs'.map .int)) (.lst (ws.map .str)) (.lst (hs.map holeV)) (.int (v % 8)) (v / 8) n s d (1 + v / 8 % 3).toNat h ((List.range (1 + v / 8 % 3).toNat).map fun i : Nat => .int (i : Int)) (SW ws) (OW hs) m3 1000
            (fun cs2 k hc2 => term_ok ws hs hw hw2 hh hh2 hh3 h n d cs2 (s + k) (by omega) hc2) cs' (by simp at hc; omega)
          have g3 : acc.length ≤ sizeLine := by rw [sizeLine_val]; omega
          have h5 : (2 + v / 8 / 3 % 4 % 3).toNat < ws.length := by omega
          have h6 : ((2 + v / 8 / 3 % 4 % 3).toNat : Int) = 2 + v / 8 / 3 % 4 % 3 := by omega
          obtain ⟨w, hwat⟩ : ∃ w, ws[(2 + v / 8 / 3 % 4 % 3).toNat]? = some w := ⟨_, List.getElem?_eq_getElem h5⟩
          have hat : atI (ws.map PV.str) (2 + v / 8 / 3 % 4 % 3) = some (.str w) := by
            have := atI_nat (ws.map PV.str) (2 + v / 8 / 3 % 4 % 3).toNat
            rw [h6, List.getElem?_map, hwat] at this
            exact this
          refine ⟨.sign w acc, rest, ?_, by simp; omega, ?_⟩
          · unfold f_law_term runDef b_law_term
            by_cases e4 : v % 8 < 4
            · have e5 := eb' e4
              subst e5
              simp only [List.map_nil] at e
              simp [toDs, PV.toD, toDs_ints, sc, shaped_nil, eqv_nil, ce, cutP_1_drop, f1, hd0, atI_0, ea, e4, dh, sh, g1, g2]
              rw [e]
              simp [g3, hat, Tm.enc_sign]
            · simp [toDs, PV.toD, toDs_ints, sc, shaped_nil, eqv_nil, ce, cutP_1_drop, f1, hd0, atI_0, ea, e4, dh, sh, g1, g2]
              rw [e]
              simp [g3, hat, Tm.enc_sign]
          · refine drawn_node (by simp [Tm.inner]; omega) (fun p hp => (h3 p hp).2) ((Tm.In_sign _ _ _).mpr fun p hp => (h3 p hp).2.scope) ((Tm.Ok_sign _ _).mpr ⟨⟨List.mem_of_getElem? hwat, by simp; omega, fun k hk => ?_⟩, fun p hp => (h3 p hp).2.ok⟩)
            obtain ⟨p, hp, rfl⟩ := List.mem_map.mp hk
            exact (h3 p hp).1
end HF

end
section
set_option Elab.async false
set_option linter.all false
set_option maxRecDepth 20000
set_option autoImplicit false
namespace HF
open PySem PySem.Spec PyProof.Rows L2
def wordsL (c : Int) : List Str := (List.range 9).map (wordS c)
def holesL (c : Int) : List (Str × Nat) := (List.range 4).map fun k => (wordS c (5 + k), k)
theorem drawn_ok (cs : List Int) (s : Nat) (c : Int) (h : List PO) (hc : cs.length ≤ 1000) : ∃ t : Tm, f_law_drawn [.lst (cs.map .int), .int s, .int c] h = .ok (.v t.enc) h ∧ Drawn (SW (wordsL c)) (OW (holesL c)) s 4 t := by
  have e1 := words_ok c 9 h (by omega)
  have e2 : (List.range 9).map (fun k => PV.str (wordS c k)) = (wordsL c).map .str := by unfold wordsL; rw [List.map_map]; rfl
  rw [e2] at e1
  obtain ⟨t, rest, e3, _, dr⟩ := term_ok (wordsL c) (holesL c) (by simp [wordsL]) (by simp [wordsL]) (by simp [holesL]) (fun p hp => by
    obtain ⟨k, hk, rfl⟩ := List.mem_map.mp hp
    have := List.mem_range.mp hk
    simp; omega) (fun p hp => by
    obtain ⟨k, hk, rfl⟩ := List.mem_map.mp hp
    exact wordS_ok _ _) h 6 4 (cs.take 12) s (by omega) (by simp; omega)
  refine ⟨t, ?_, dr⟩
  have g2 : 4 ≤ sizeLine := by rw [sizeLine_val]; omega
  have g3 := cutP_take (cs.map PV.int) 12
  simp at e1 e3 g3
  unfold f_law_drawn runDef b_law_drawn
  simp [e1, g2]
  rw [lcL_map0 _ (fun i : Nat => PV.int i) (fun k : Nat => holeV (wordS c (5 + k), k))]
  · have e4 : (List.range 4).map (fun k : Nat => holeV (wordS c (5 + k), k)) = (holesL c).map holeV := by unfold holesL; rw [List.map_map]; rfl
    simp [e4, g3, e3, atI_0]
  · intro k hk
    have hk' := List.mem_range.mp hk
    have : atI ((wordsL c).map PV.str) (5 + (k : Int)) = some (.str (wordS c (5 + k))) := by
      have := atI_nat ((wordsL c).map PV.str) (5 + k)
      rw [show ((5 + k : Nat) : Int) = 5 + (k : Int) by omega] at this
      rw [this]
      have : 5 + k < 9 := by omega
      simp [wordsL, this]
    simp [this, holeV]
end HF

end
section
set_option Elab.async false
set_option linter.all false
set_option maxRecDepth 20000
set_option autoImplicit false
namespace HF
open PySem PySem.Spec PyProof.Rows L2
/-! the law's own reckoning -/
def encI (p : Tm × Int) : PV := .tup [p.1.enc, .int p.2]
def val (S : List (Tm × Int)) : Int := imax (S.map fun p => p.1.least - p.2)
theorem imax_app : ∀ a b : List Int, imax (a ++ b) = max (imax a) (imax b)
  | [], b => by have := imax_nonneg b; simp only [List.nil_append, imax]; omega
  | n :: a, b => by simp only [List.cons_append, imax, imax_app a b]; omega
theorem imax_sub {b : Int} (hb : 0 ≤ b) : ∀ ns : List Int, max 0 (imax ns - b) = imax (ns.map (· - b))
  | [] => by simp only [List.map_nil, imax]; omega
  | n :: ns => by
    have := imax_sub hb ns
    simp only [List.map_cons, imax] at this ⊢
    omega
theorem val_app (a b : List (Tm × Int)) : val (a ++ b) = max (val a) (val b) := by unfold val; rw [List.map_append, imax_app]
def pushed (t : Tm) (b : Int) : List (Tm × Int) := t.inner.map fun p => (p.2, b + p.1)
theorem val_pushed {t : Tm} {b : Int} (hb : 0 ≤ b) (h : ∀ k, t ≠ .name k) : val (pushed t b) = max 0 (t.least - b) := by
  rw [least_node h, imax_sub hb]
  unfold val pushed
  rw [List.map_map, List.map_map]
  congr 1
  apply List.map_congr_left
  intro p _
  simp only [Function.comp]
  omega
def weight (S : List (Tm × Int)) : Nat := (S.map fun p => p.1.size).sum
theorem weight_app (a b : List (Tm × Int)) : weight (a ++ b) = weight a + weight b := by unfold weight; rw [List.map_append, List.sum_append]
theorem weight_pushed (t : Tm) (b : Int) : weight (pushed t b) + 1 = t.size := by
  rw [Tm.size_eq]
  unfold weight pushed
  rw [List.map_map]
  have : ((fun p : Tm × Int => p.1.size) ∘ fun p : Nat × Tm => (p.2, b + (p.1 : Int))) = fun p => p.2.size := rfl
  rw [this]; omega
theorem len_weight : ∀ S : List (Tm × Int), S.length ≤ weight S
  | [] => Nat.le_refl _
  | p :: S => by
    have h1 := len_weight S
    have h2 := p.1.size_pos
    unfold weight at h1 ⊢
    simp only [List.length_cons, List.map_cons, List.sum_cons]; omega
def memR (t0 : PV) (S : List (Tm × Int)) (f : Int) (h : List PO) : Mem := ⟨[some (.v t0), some (.own (.lst (S.map encI))), some (.v (.int f)), none, none, none, none], h⟩
theorem ne_nil_ok (t0 : PV) (S : List (Tm × Int)) (f : Int) (h : List PO) (hS : ∀ p ∈ S, p.1.Lay ∧ p.1.depth ≤ 20) : b2 cpNe (eVar 1) (eLst aNil) (memR t0 S f h) = .ok (!S.isEmpty) (memR t0 S f h) := by
  have e1 : toDs (S.map encI) = some (S.map fun p => .tuple [p.1.dat, .int p.2]) := toDs_map _ _ S fun p hp => by simp [encI, PV.toD, toDs, Tm.enc_toD]
  have e2 : SeqAt.shaped (.list (S.map fun p => .tuple [p.1.dat, .int p.2])) = true := shaped_list fun d hd => by
    obtain ⟨p, hp, rfl⟩ := List.mem_map.mp hd
    obtain ⟨h1, h2⟩ := Tm.dat_ok (hS p hp).1 (hS p hp).2
    simp [PyData.canLay0, PyData.canLayAll0, PyData.depth, PyData.depthAll, h1]
    omega
  have e3 : (S.map fun p : Tm × Int => PyData.tuple [p.1.dat, .int p.2]).isEmpty = S.isEmpty := by cases S <;> rfl
  simp [memR, toDs, e1, e2, shaped_nil, eqv_nil, e3]
def memL (t0 u : PV) (b : Int) (S : List (Tm × Int)) (f : Int) (h : List PO) : Mem := ⟨[some (.v t0), some (.own (.lst (S.map encI))), some (.v (.int f)), some (.v u), some (.v (.int b)), none, none], h⟩
theorem push_loop (t0 u : PV) (b f : Int) (h : List PO) (all : List PV) (ps : List (Nat × Tm)) (S : List (Tm × Int)) (hn : S.length + ps.length ≤ 100000) :
    forL (.v .non) all (.tp [5, 6]) b_law_reaches_1 [5, 6] (ps.map encP) (memL t0 u b S f h) = .nx (memL t0 u b (S ++ ps.map fun p => (p.2, b + (p.1 : Int))) f h) := by
  refine forL_inv (e := .v .non) (k := encP) (I := fun ys M => ∃ xs, xs ++ ys = ps ∧ M = memL t0 u b (S ++ xs.map fun p => (p.2, b + (p.1 : Int))) f h) (Q := fun r => r = .nx (memL t0 u b (S ++ ps.map fun p => (p.2, b + (p.1 : Int))) f h)) ?_ ?_ _ _ ⟨[], rfl, by simp⟩
  · rintro y ys M ⟨xs, rfl, rfl⟩
    refine ⟨trivial, .inl ⟨_, ?_, xs ++ [y], by simp, rfl⟩⟩
    have g : S.length + xs.length < sizeLine := by rw [sizeLine_val]; simp at hn; omega
    unfold b_law_reaches_1
    simp [memL, encP, g, encI]
  · rintro M ⟨xs, h1, rfl⟩
    simp at h1; subst h1
    exact ⟨trivial, rfl⟩
theorem turn_ok (t0 : PV) (S : List (Tm × Int)) (u : Tm) (b f : Int) (h : List PO) (hn : S.length + u.inner.length ≤ 100000) (hb : 0 ≤ b) (hf : 0 ≤ f) (hu : 0 ≤ u.least) :
    ∃ M2 f', b_law_reaches_2 (memR t0 (S ++ [(u, b)]) f h) = .nx M2 ∧ forget [3, 4, 5, 6] M2 = memR t0 (S ++ pushed u b) f' h ∧ 0 ≤ f' ∧ max f' (val (pushed u b)) = max f (max 0 (u.least - b)) := by
  have hi := linner_ok u h
  cases u with
  | name k =>
    have hp := push_loop t0 (Tm.name k).enc b (max f ((k : Int) + 1 - b)) h [] [] S (by simp at hn ⊢; omega)
    refine ⟨memL t0 (Tm.name k).enc b S (max f ((k : Int) + 1 - b)) h, max f ((k : Int) + 1 - b), ?_, ?_, by omega, ?_⟩
    · have e1 : (if f < (k : Int) + 1 - b then (k : Int) + 1 - b else f) = max f ((k : Int) + 1 - b) := by split <;> omega
      simp [memL, Tm.inner, Tm.enc_name] at hi hp
      unfold b_law_reaches_2
      simp [memR, memL, encI, Tm.enc_name, atI_0, atI_1, hi, e1, hp]
    · simp [memL, memR, pushed, Tm.inner]
    · simp [pushed, Tm.inner, val, imax, least_name]; omega
  | sign w ps => 
    have hp := push_loop t0 (Tm.sign w ps).enc b f h (ps.map encP) ps S hn
    refine ⟨memL t0 (Tm.sign w ps).enc b (S ++ ps.map fun p => (p.2, b + (p.1 : Int))) f h, f, ?_, ?_, hf, ?_⟩
    · simp [memL, Tm.inner, Tm.enc_sign] at hi hp
      unfold b_law_reaches_2
      simp [memR, memL, encI, Tm.enc_sign, atI_0, atI_1, hi, hp, str_sn]
    · simp [memL, memR, pushed, Tm.inner]
    · rw [val_pushed hb (fun k => by simp)]
  | hole w ts => 
    have hp := push_loop t0 (Tm.hole w ts).enc b f h ((Tm.hole w ts).inner.map encP) (Tm.hole w ts).inner S hn
    refine ⟨memL t0 (Tm.hole w ts).enc b (S ++ (Tm.hole w ts).inner.map fun p => (p.2, b + (p.1 : Int))) f h, f, ?_, ?_, hf, ?_⟩
    · simp [memL, Tm.enc_hole] at hi hp
      unfold b_law_reaches_2
      simp [memR, memL, encI, Tm.enc_hole, atI_0, atI_1, hi, hp, str_hn]
    · simp [memL, memR, pushed, Tm.inner]
    · rw [val_pushed hb (fun k => by simp)]
theorem least_nonneg (t : Tm) : 0 ≤ t.least := by
  cases t with
  | name k => rw [least_name]; omega
  | sign w ps => rw [least_node (fun k => by simp)]; exact imax_nonneg _
  | hole w ps => rw [least_node (fun k => by simp)]; exact imax_nonneg _
theorem reaches_ok (t : Tm) (h : List PO) (hl : t.Lay) (hd : t.depth ≤ 20) (hs : t.size ≤ 100000) (hp : 0 ≤ t.least) : f_law_reaches [t.enc] h = .ok (.v (.int t.least)) h := by
  have key : ∃ r, whileL (b2 cpNe (eVar 1) (eLst aNil)) b_law_reaches_2 [3, 4, 5, 6] 100000000 (memR t.enc [(t, 0)] 0 h) = r ∧ r = .nx (memR t.enc [] t.least h) := by
    refine ⟨_, rfl, ?_⟩
    refine whileL_inv (I := fun n M => ∃ (S : List (Tm × Int)) (f : Int), M = memR t.enc S f h ∧ 0 ≤ f ∧ (∀ p ∈ S, p.1.Lay ∧ p.1.depth ≤ 20 ∧ 0 ≤ p.2) ∧ max f (val S) = t.least ∧ weight S = n ∧ n ≤ 100000) (Q := fun r => r = .nx (memR t.enc [] t.least h)) ?_ t.size _ _ (by omega) ⟨[(t, 0)], 0, rfl, Int.le_refl _, fun p hp => ?_, ?_, by simp [weight], hs⟩
    · rintro n M ⟨S, f, rfl, h1, h2, h3, h4, h5⟩
      have hc := ne_nil_ok t.enc S f h fun p hp => ⟨(h2 p hp).1, (h2 p hp).2.1⟩
      rcases List.eq_nil_or_concat S with rfl | ⟨S, ⟨u, b⟩, rfl⟩
      · refine .inl ⟨_, hc, ?_⟩
        simp only [val, List.map_nil, imax] at h3
        rw [show f = t.least by omega]
      · simp only [List.concat_eq_append] at hc h2 h3 h4 ⊢
        rw [weight_app] at h4
        have wu := weight_pushed u b
        have w1 : weight [(u, b)] = u.size := by simp [weight]
        have lS := len_weight S
        have lI := u.inner_len
        have hu := h2 (u, b) (by simp)
        obtain ⟨M2, f', e1, e2, f1, e3⟩ := turn_ok t.enc S u b f h (by omega) hu.2.2 h1 (least_nonneg u)
        refine .inr ⟨_, by rw [hc]; simp, .inl ⟨M2, weight (S ++ pushed u b), .inl e1, by rw [weight_app]; omega, S ++ pushed u b, f', e2, f1, ?_, ?_, rfl, by rw [weight_app]; omega⟩⟩
        · intro p hp
          rcases List.mem_append.mp hp with hp | hp
          · exact h2 p (by simp [hp])
          · obtain ⟨q, hq, rfl⟩ := List.mem_map.mp hp
            have := Tm.depth_lt hq
            have hd2 : u.depth ≤ 20 := hu.2.1
            exact ⟨hu.1.inner hq, by simp only; omega, by simp only; omega⟩
        · rw [val_app] at h3 ⊢
          have : val [(u, b)] = max 0 (u.least - b) := by simp only [val, List.map_cons, List.map_nil, imax]; omega
          rw [this] at h3
          omega
    · simp at hp; subst hp; exact ⟨hl, hd, Int.le_refl _⟩
    · simp only [val, List.map_cons, List.map_nil, imax]; omega
  obtain ⟨r, e, rfl⟩ := key
  unfold f_law_reaches runDef b_law_reaches
  simp [memR, encI] at e
  simp
  rw [e]
  simp
end HF

end
section
set_option Elab.async false
set_option linter.all false
set_option maxRecDepth 20000
set_option autoImplicit false
namespace HF
open PySem PySem.Spec PyProof.Rows L2
theorem is_ok (i j : Int) (h : List PO) : f_law_is [.int i, .int j] h = .ok (.v (.bl (decide (i = j)))) h := by
  unfold f_law_is runDef b_law_is
  simp [kitB_int_int, kitB_int_bool]
theorem wordsL_ok {c : Int} {w : Str} (h : w ∈ wordsL c) : PyData.strOk w = true := by
  obtain ⟨k, _, rfl⟩ := List.mem_map.mp h
  exact wordS_ok _ _
theorem lay_of {c : Int} {s d : Nat} {t : Tm} (h : Drawn (SW (wordsL c)) (OW (holesL c)) s d t) : t.Lay :=
  h.ok.lay (fun w l z => wordsL_ok z.1) fun w l z => by
    obtain ⟨k, _, e⟩ := List.mem_map.mp (show (w, l) ∈ holesL c from z)
    cases e
    exact wordS_ok _ _
theorem one_ok (ns : List Int) (k : Int) (h : List PO) (hn : ns.length ≤ 63) (h0 : 0 ≤ k) (hk : k ≤ 1000) : forTurn (.nm 1) b_law_1 [1, 2, 3, 4, 5] (.int k) ⟨[some (.v (.rol (ns.map .int))), none, none, none, none, none], h⟩ = .go ⟨[some (.v (.rol (ns.map .int))), none, none, none, none, none], h⟩ := by
  obtain ⟨k, rfl⟩ := Int.eq_ofNat_of_zero_le h0
  have c1 := cell_ok ns k h (by omega)
  generalize hc : ns[k]?.getD 0 = c at c1
  have m40 := mix_ok c 40 h (by omega) (by omega)
  have m41 := mix_ok c 41 h (by omega) (by omega)
  have hs := Int.emod_nonneg (mixI c 40) (b := 4) (by omega)
  have hb0 := Int.emod_nonneg (mixI c 41) (b := 6) (by omega)
  obtain ⟨s, hs⟩ := Int.eq_ofNat_of_zero_le hs
  obtain ⟨b, hb⟩ := Int.eq_ofNat_of_zero_le hb0
  have hb6 := Int.emod_lt_of_pos (mixI c 41) (b := 6) (by omega)
  obtain ⟨t, dt, dr⟩ := drawn_ok (ns.drop k) s c h (by simp; omega)
  have hl := lay_of dr
  have hd := dr.depth
  have hz : t.size ≤ 121 := dr.size
  have rt := reaches_ok t h hl (by omega) (by omega) (least_nonneg t)
  have lt := least_ok 30 t h (by omega) (by omega)
  have l1 := least_ok 30 (.hole (Str.ofString "h") [t, t]) h (by rw [Tm.depth_eq]; simp [Tm.inner, nmax]; omega) (by rw [Tm.size_eq]; simp [Tm.inner]; omega)
  have l2 := least_ok 30 (.sign (Str.ofString "s") [(0, .sign (Str.ofString "s") []), (b, t)]) h (by rw [Tm.depth_eq]; simp [Tm.inner, nmax]; rw [Tm.depth_eq]; simp [Tm.inner, nmax]; omega) (by rw [Tm.size_eq]; simp [Tm.inner]; rw [Tm.size_eq (.sign _ [])]; simp [Tm.inner]; omega)
  have n0 := least_nonneg t
  have e1 : (Tm.hole (Str.ofString "h") [t, t]).least = t.least := by rw [least_node (fun k => by simp)]; simp [Tm.inner, imax]; omega
  have e2 : (Tm.sign (Str.ofString "s") [(0, .sign (Str.ofString "s") []), (b, t)]).least = max 0 (t.least - b) := by
    rw [least_node (fun k => by simp)]; simp [Tm.inner, imax]; rw [least_node (fun k => by simp)]; simp [Tm.inner, imax]
  rw [e1] at l1
  rw [e2] at l2
  simp [Tm.enc_hole, Tm.enc_sign, encP] at l1 l2
  have i1 := is_ok t.least t.least h
  have i2 := is_ok (max 0 (t.least - b)) (max 0 (t.least - b)) h
  have e3 : (if (b : Int) < t.least then t.least - b else 0) = max 0 (t.least - b) := by split <;> omega
  have g3 := cutP_drop (ns.map PV.int) k
  simp at i1 i2 dt g3
  unfold b_law_1
  simp [c1, m40, m41, hs, hb, g3, dt, rt, lt, l1, l2, i1, i2, e3]
theorem law_ok (ns : List Int) (h : List PO) (hn : ns.length ≤ 63) : f_law [.rol (ns.map .int)] h = .ok (.v (.bl true)) h := by
  have g1 : ns.length ≤ sizeLine := by rw [sizeLine_val]; omega
  generalize hm : (if (1 : Int) < (if (63 : Int) < ns.length then 63 else (ns.length : Int)) then (if (63 : Int) < ns.length then 63 else (ns.length : Int)) else 1) = m
  have h1 : 1 ≤ m ∧ m ≤ 63 := by
    subst hm
    split <;> split <;> omega
  have h2 := rg3_of (a := 0) (b := m) (c := 6) (by omega) (by omega) (by omega) (by omega) (by omega) (by omega)
  have h3 := size_of (a := 0) (b := m) (c := 6) (by omega) (by omega) (by omega) (by omega) (by omega) (by omega)
  have key : forL (.v .non) ((List.range (rgLen 0 m 6)).map fun (i : Nat) => .int ((i : Int) * 6)) (.nm 1) b_law_1 [1, 2, 3, 4, 5] ((List.range (rgLen 0 m 6)).map fun (i : Nat) => .int ((i : Int) * 6)) ⟨[some (.v (.rol (ns.map .int))), none, none, none, none, none], h⟩ = .nx ⟨[some (.v (.rol (ns.map .int))), none, none, none, none, none], h⟩ := by
    have := forL_fold0 (σ := Unit) (all := (List.range (rgLen 0 m 6)).map fun (i : Nat) => .int ((i : Int) * 6)) (pt := .nm 1) (b := b_law_1) (ws := [1, 2, 3, 4, 5]) (fun _ => ⟨[some (.v (.rol (ns.map .int))), none, none, none, none, none], h⟩) (fun (i : Nat) => .int ((i : Int) * 6)) (fun _ _ => ()) (List.range (rgLen 0 m 6)) () fun i hi _ => ?_
    · exact this
    · have hi' := List.mem_range.mp hi
      unfold rgLen Builtin.Range.rangeSize at hi'
      rw [if_pos (by omega), if_pos (by omega)] at hi'
      exact one_ok ns _ h hn (by omega) (by omega)
  unfold f_law runDef b_law
  simp [g1, hm, h2]
  rw [key]
end HF

end
section
set_option Elab.async false
set_option linter.all false
set_option maxRecDepth 100000
set_option autoImplicit false
namespace HF
open PySem PySem.Spec PyProof.Rows L2
theorem tops_at {l : PySem.W.OpenLaw} {w : World} {K : PySem.W.Frag} {h : Heap} {mg : Str → Option Value} {fa : Addr} (KX : K.In h) (NG : h.Ns mainGlobals mg) (mlaw : mg "law" = some (.ref fa))
    {f1 f2 f3 f4 f5 f6 f7 f8 f9 f10 f11 f12 f13 : Addr}
    {oc1 kv1 dc1 pm1 cd1 ct1 oc2 kv2 dc2 pm2 cd2 ct2 oc3 kv3 dc3 pm3 cd3 ct3 oc4 kv4 dc4 pm4 cd4 ct4 oc5 kv5 dc5 pm5 cd5 ct5 oc6 kv6 dc6 pm6 cd6 ct6 oc7 kv7 dc7 pm7 cd7 ct7 oc8 kv8 dc8 pm8 cd8 ct8 oc9 kv9 dc9 pm9 cd9 ct9 oc10 kv10 dc10 pm10 cd10 ct10 oc11 kv11 dc11 pm11 cd11 ct11 oc12 kv12 dc12 pm12 cd12 ct12 oc13 kv13 dc13 pm13 cd13 ct13 : Value} {od1 an1 od2 an2 od3 an3 od4 an4 od5 an5 od6 an6 od7 an7 od8 an8 od9 an9 od10 an10 od11 an11 od12 an12 od13 an13 : Option Addr} {sl1 sl2 sl3 sl4 sl5 sl6 sl7 sl8 sl9 sl10 sl11 sl12 sl13 : Array (Option Value)}
    (a1 : PySem.W.nsIn K mainGlobals "inner_terms" = some (some (.ref f1)))
    (l1 : K.lookup f1 = some ⟨oc1, od1, .func (PySem.W.fnOf "inner_terms" "inner_terms" (defArgs s_inner_terms) (defBody s_inner_terms) (defScope s_inner_terms) .none kv1 dc1 pm1 an1 cd1 ct1), sl1⟩)
    (c1 : PySem.W.codeIn K cd1 "inner_terms" = true) (k1 : PySem.W.keepIn K (.ref f1) = true)
    (a2 : PySem.W.nsIn K mainGlobals "least_scope" = some (some (.ref f2)))
    (l2 : K.lookup f2 = some ⟨oc2, od2, .func (PySem.W.fnOf "least_scope" "least_scope" (defArgs s_least_scope) (defBody s_least_scope) (defScope s_least_scope) .none kv2 dc2 pm2 an2 cd2 ct2), sl2⟩)
    (c2 : PySem.W.codeIn K cd2 "least_scope" = true) (k2 : PySem.W.keepIn K (.ref f2) = true)
    (a3 : PySem.W.nsIn K mainGlobals "_law_cell_at" = some (some (.ref f3)))
    (l3 : K.lookup f3 = some ⟨oc3, od3, .func (PySem.W.fnOf "_law_cell_at" "_law_cell_at" (defArgs s_law_cell_at) (defBody s_law_cell_at) (defScope s_law_cell_at) .none kv3 dc3 pm3 an3 cd3 ct3), sl3⟩)
    (c3 : PySem.W.codeIn K cd3 "_law_cell_at" = true) (k3 : PySem.W.keepIn K (.ref f3) = true)
    (a4 : PySem.W.nsIn K mainGlobals "_law_mix" = some (some (.ref f4)))
    (l4 : K.lookup f4 = some ⟨oc4, od4, .func (PySem.W.fnOf "_law_mix" "_law_mix" (defArgs s_law_mix) (defBody s_law_mix) (defScope s_law_mix) .none kv4 dc4 pm4 an4 cd4 ct4), sl4⟩)
    (c4 : PySem.W.codeIn K cd4 "_law_mix" = true) (k4 : PySem.W.keepIn K (.ref f4) = true)
    (a5 : PySem.W.nsIn K mainGlobals "_law_words" = some (some (.ref f5)))
    (l5 : K.lookup f5 = some ⟨oc5, od5, .func (PySem.W.fnOf "_law_words" "_law_words" (defArgs s_law_words) (defBody s_law_words) (defScope s_law_words) .none kv5 dc5 pm5 an5 cd5 ct5), sl5⟩)
    (c5 : PySem.W.codeIn K cd5 "_law_words" = true) (k5 : PySem.W.keepIn K (.ref f5) = true)
    (a6 : PySem.W.nsIn K mainGlobals "_law_free" = some (some (.ref f6)))
    (l6 : K.lookup f6 = some ⟨oc6, od6, .func (PySem.W.fnOf "_law_free" "_law_free" (defArgs s_law_free) (defBody s_law_free) (defScope s_law_free) .none kv6 dc6 pm6 an6 cd6 ct6), sl6⟩)
    (c6 : PySem.W.codeIn K cd6 "_law_free" = true) (k6 : PySem.W.keepIn K (.ref f6) = true)
    (a7 : PySem.W.nsIn K mainGlobals "_law_leaf" = some (some (.ref f7)))
    (l7 : K.lookup f7 = some ⟨oc7, od7, .func (PySem.W.fnOf "_law_leaf" "_law_leaf" (defArgs s_law_leaf) (defBody s_law_leaf) (defScope s_law_leaf) .none kv7 dc7 pm7 an7 cd7 ct7), sl7⟩)
    (c7 : PySem.W.codeIn K cd7 "_law_leaf" = true) (k7 : PySem.W.keepIn K (.ref f7) = true)
    (a8 : PySem.W.nsIn K mainGlobals "_law_term" = some (some (.ref f8)))
    (l8 : K.lookup f8 = some ⟨oc8, od8, .func (PySem.W.fnOf "_law_term" "_law_term" (defArgs s_law_term) (defBody s_law_term) (defScope s_law_term) .none kv8 dc8 pm8 an8 cd8 ct8), sl8⟩)
    (c8 : PySem.W.codeIn K cd8 "_law_term" = true) (k8 : PySem.W.keepIn K (.ref f8) = true)
    (a9 : PySem.W.nsIn K mainGlobals "_law_drawn" = some (some (.ref f9)))
    (l9 : K.lookup f9 = some ⟨oc9, od9, .func (PySem.W.fnOf "_law_drawn" "_law_drawn" (defArgs s_law_drawn) (defBody s_law_drawn) (defScope s_law_drawn) .none kv9 dc9 pm9 an9 cd9 ct9), sl9⟩)
    (c9 : PySem.W.codeIn K cd9 "_law_drawn" = true) (k9 : PySem.W.keepIn K (.ref f9) = true)
    (a10 : PySem.W.nsIn K mainGlobals "_law_inner" = some (some (.ref f10)))
    (l10 : K.lookup f10 = some ⟨oc10, od10, .func (PySem.W.fnOf "_law_inner" "_law_inner" (defArgs s_law_inner) (defBody s_law_inner) (defScope s_law_inner) .none kv10 dc10 pm10 an10 cd10 ct10), sl10⟩)
    (c10 : PySem.W.codeIn K cd10 "_law_inner" = true) (k10 : PySem.W.keepIn K (.ref f10) = true)
    (a11 : PySem.W.nsIn K mainGlobals "_law_reaches" = some (some (.ref f11)))
    (l11 : K.lookup f11 = some ⟨oc11, od11, .func (PySem.W.fnOf "_law_reaches" "_law_reaches" (defArgs s_law_reaches) (defBody s_law_reaches) (defScope s_law_reaches) .none kv11 dc11 pm11 an11 cd11 ct11), sl11⟩)
    (c11 : PySem.W.codeIn K cd11 "_law_reaches" = true) (k11 : PySem.W.keepIn K (.ref f11) = true)
    (a12 : PySem.W.nsIn K mainGlobals "_law_is" = some (some (.ref f12)))
    (l12 : K.lookup f12 = some ⟨oc12, od12, .func (PySem.W.fnOf "_law_is" "_law_is" (defArgs s_law_is) (defBody s_law_is) (defScope s_law_is) .none kv12 dc12 pm12 an12 cd12 ct12), sl12⟩)
    (c12 : PySem.W.codeIn K cd12 "_law_is" = true) (k12 : PySem.W.keepIn K (.ref f12) = true)
    (a13 : PySem.W.nsIn K mainGlobals "law" = some (some (.ref f13)))
    (l13 : K.lookup f13 = some ⟨oc13, od13, .func (PySem.W.fnOf "law" "law" (defArgs s_law) (defBody s_law) (defScope s_law) .none kv13 dc13 pm13 an13 cd13 ct13), sl13⟩)
    (c13 : PySem.W.codeIn K cd13 "law" = true) (k13 : PySem.W.keepIn K (.ref f13) = true)
    (z_bool : PySem.W.nsIn K mainGlobals "bool" = some none)
    (z_int : PySem.W.nsIn K mainGlobals "int" = some none)
    (z_isinstance : PySem.W.nsIn K mainGlobals "isinstance" = some none)
    (z_len : PySem.W.nsIn K mainGlobals "len" = some none)
    (z_list : PySem.W.nsIn K mainGlobals "list" = some none)
    (z_max : PySem.W.nsIn K mainGlobals "max" = some none)
    (z_min : PySem.W.nsIn K mainGlobals "min" = some none)
    (z_range : PySem.W.nsIn K mainGlobals "range" = some none)
    (z_sum : PySem.W.nsIn K mainGlobals "sum" = some none)
    (z_tuple : PySem.W.nsIn K mainGlobals "tuple" = some none)
    : ∃ fd : FuncData, (∀ (s : Shared) (v : Value), BindsTo s fd ⟨[v], []⟩ [("_law_script", v)]) ∧ ∀ base : Heap, K.In base → base.Ns mainGlobals mg → FnOk l.prog w K mg base (L2.CX l.prog w) 32 fa fd ["_law_script"] (spTop K f_law) := by
  have same := mlaw.symm.trans (PySem.W.mg_of KX NG a13)
  cases same
  have FL := fun_mk (st := s_law) l13 c13 k13
  refine ⟨PySem.W.fnOf "law" "law" (defArgs s_law) (defBody s_law) (defScope s_law) .none kv13 dc13 pm13 an13 cd13 ct13, fun s v => .of_eq rfl, fun base _ _ => ?_⟩
  have T : Tops ⟨l.prog, w, K, mg, base⟩ :=
    { t_inner_terms := defAt_mk KX NG a1 l1 c1 k1 fun _ _ _ _ _ _ us hl => match us, hl with | [_], _ => rfl
      t_least_scope := defAt_mk KX NG a2 l2 c2 k2 fun _ _ _ _ _ _ us hl => match us, hl with | [_], _ => rfl
      t_law_cell_at := defAt_mk KX NG a3 l3 c3 k3 fun _ _ _ _ _ _ us hl => match us, hl with | [_, _], _ => rfl
      t_law_mix := defAt_mk KX NG a4 l4 c4 k4 fun _ _ _ _ _ _ us hl => match us, hl with | [_, _], _ => rfl
      t_law_words := defAt_mk KX NG a5 l5 c5 k5 fun _ _ _ _ _ _ us hl => match us, hl with | [_, _], _ => rfl
      t_law_free := defAt_mk KX NG a6 l6 c6 k6 fun _ _ _ _ _ _ us hl => match us, hl with | [_, _], _ => rfl
      t_law_leaf := defAt_mk KX NG a7 l7 c7 k7 fun _ _ _ _ _ _ us hl => match us, hl with | [_, _, _], _ => rfl
      t_law_term := defAt_mk KX NG a8 l8 c8 k8 fun _ _ _ _ _ _ us hl => match us, hl with | [_, _, _, _, _], _ => rfl
      t_law_drawn := defAt_mk KX NG a9 l9 c9 k9 fun _ _ _ _ _ _ us hl => match us, hl with | [_, _, _], _ => rfl
      t_law_inner := defAt_mk KX NG a10 l10 c10 k10 fun _ _ _ _ _ _ us hl => match us, hl with | [_], _ => rfl
      t_law_reaches := defAt_mk KX NG a11 l11 c11 k11 fun _ _ _ _ _ _ us hl => match us, hl with | [_], _ => rfl
      t_law_is := defAt_mk KX NG a12 l12 c12 k12 fun _ _ _ _ _ _ us hl => match us, hl with | [_, _], _ => rfl
      t_law := defAt_mk KX NG a13 l13 c13 k13 fun _ _ _ _ _ _ us hl => match us, hl with | [_], _ => rfl
      m_bool := PySem.W.mg_none_of KX NG z_bool
      m_int := PySem.W.mg_none_of KX NG z_int
      m_isinstance := PySem.W.mg_none_of KX NG z_isinstance
      m_len := PySem.W.mg_none_of KX NG z_len
      m_list := PySem.W.mg_none_of KX NG z_list
      m_max := PySem.W.mg_none_of KX NG z_max
      m_min := PySem.W.mg_none_of KX NG z_min
      m_range := PySem.W.mg_none_of KX NG z_range
      m_sum := PySem.W.mg_none_of KX NG z_sum
      m_tuple := PySem.W.mg_none_of KX NG z_tuple }
  exact (d_law T _ _ FL).imp fun vs H Q Ex h => h mg
theorem walk_end {l : PySem.W.OpenLaw} {q : Program} {loose : List Str} {XP : (Str → Option Value) → Heap → Prop} {YP : World → Heap → Prop} {d : DefRec} {K : Params → PySem.W.Frag} (hn : l.most = some 63) (hdf : d.params.defaults = [])
    (hY : ∀ (w : World) (h : Heap), YP w h → (K w.params).In h)
    (F : ∀ (w : World) (mg : Str → Option Value) (fa : Addr) (h : Heap), (K w.params).In h → h.Ns mainGlobals mg → mg d.name = some (.ref fa) →
      ∃ fd : FuncData, (∀ (s : Shared) (u : Value), BindsTo s fd ⟨[u], []⟩ [("_law_script", u)]) ∧ ∀ base : Heap, (K w.params).In base → base.Ns mainGlobals mg → FnOk l.prog w (K w.params) mg base (L2.CX l.prog w) 32 fa fd ["_law_script"] (spTop (K w.params) f_law)) :
    PySem.W.WalkO q loose XP YP l.row.toRowW d [] (fun f vs => PySem.call f vs) :=
  L2.walk_of (n := 63) (k := 32) (x := "_law_script") (CX := fun w => L2.CX l.prog w) (sp := fun w => spTop (K w.params) f_law) hn (by decide) hdf ⟨rfl, by decide, by decide⟩ hY F (fun w H a ns hl _ hS mg => law_sp (fun ms hm => ⟨[], law_ok ms [] hm⟩) H a ns hl hS) fun w H s e s' z => CX_false z
end HF
open PySem PySem.W PyProof.Rows
set_option maxHeartbeats 0 in
theorem PySem.Challenge.cw_holeform_k02_least_scope_holds : PySem.Challenge.rw_holeform_k02_least_scope.Holds := by
  w_on; o_law; k_head; (case hw => w_witness2); k_fill
  refine HF.walk_end (l := PySem.Challenge.rw_holeform_k02_least_scope) rfl rfl (fun w h Y => PySem.W.kIn_of Y) ?F
  case F =>
    intro w mg fa h KX NG ml
    refine' HF.tops_at KX NG ml ?a1 ?l1 ?c1 ?k1 ?a2 ?l2 ?c2 ?k2 ?a3 ?l3 ?c3 ?k3 ?a4 ?l4 ?c4 ?k4 ?a5 ?l5 ?c5 ?k5 ?a6 ?l6 ?c6 ?k6 ?a7 ?l7 ?c7 ?k7 ?a8 ?l8 ?c8 ?k8 ?a9 ?l9 ?c9 ?k9 ?a10 ?l10 ?c10 ?k10 ?a11 ?l11 ?c11 ?k11 ?a12 ?l12 ?c12 ?k12 ?a13 ?l13 ?c13 ?k13 ?z_bool ?z_int ?z_isinstance ?z_len ?z_list ?z_max ?z_min ?z_range ?z_sum ?z_tuple
    (case a1 => k_is); (case l1 => k_is); (case c1 => k_is); (case k1 => k_is)
    (case a2 => k_is); (case l2 => k_is); (case c2 => k_is); (case k2 => k_is)
    (case a3 => k_is); (case l3 => k_is); (case c3 => k_is); (case k3 => k_is)
    (case a4 => k_is); (case l4 => k_is); (case c4 => k_is); (case k4 => k_is)
    (case a5 => k_is); (case l5 => k_is); (case c5 => k_is); (case k5 => k_is)
    (case a6 => k_is); (case l6 => k_is); (case c6 => k_is); (case k6 => k_is)
    (case a7 => k_is); (case l7 => k_is); (case c7 => k_is); (case k7 => k_is)
    (case a8 => k_is); (case l8 => k_is); (case c8 => k_is); (case k8 => k_is)
    (case a9 => k_is); (case l9 => k_is); (case c9 => k_is); (case k9 => k_is)
    (case a10 => k_is); (case l10 => k_is); (case c10 => k_is); (case k10 => k_is)
    (case a11 => k_is); (case l11 => k_is); (case c11 => k_is); (case k11 => k_is)
    (case a12 => k_is); (case l12 => k_is); (case c12 => k_is); (case k12 => k_is)
    (case a13 => k_is); (case l13 => k_is); (case c13 => k_is); (case k13 => k_is)
    (case z_bool => k_is)
    (case z_int => k_is)
    (case z_isinstance => k_is)
    (case z_len => k_is)
    (case z_list => k_is)
    (case z_max => k_is)
    (case z_min => k_is)
    (case z_range => k_is)
    (case z_sum => k_is)
    (case z_tuple => k_is)

end
