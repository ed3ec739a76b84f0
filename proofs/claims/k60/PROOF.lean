import PyProof.Rows.All
import Wide.All
import OpenK.AllK
import Wide.FinOn
import HandS.ForMost
import HandS.WordsExc
import HandS.Nested
import HandS.ExcOwn
import HandS.ExcIs
import HandS.TupAny
import HandS.IsInst
import HandS.Deep
import HandS.Zip
import HandS.Defaults
import KE.KNestM
import HandS.Iter
import HandS.SetKeys
import HandS.More
import HandS.TupLe
import KE.KEqDict
import KE.KDictZip
import HandS.SortKw
import HandS.Finally
import HandS.CallLocal
import HandS.Style
import HandS.Strs
import HandS.Set
import HandS.SetFor
import HandS.SetTxt0
import PyProof.Rows.SortShellAny
import HandS.Flow
import PyProof.StrBlock2
import KE.KUnpack
import KE.KEqNest
import HandS.DictTup
import KE.SortData
import HandS.Conv
import HandS.TupMul
import PySem.Challenge.RW_holeform_k60_is_rule
section
set_option Elab.async false
set_option linter.all false
set_option maxRecDepth 20000
set_option autoImplicit false
/-! HF1: values as trees, the state of a def as slots and cells, and what it means that a state of the hand layer bears them. -/
namespace HF
open PySem PySem.Spec PyProof.Rows L2

/-- a value: tuples, lists and dicts that never change any more are told by what they hold -/
inductive PV where
  | non
  | bl (b : Bool)
  | int (i : Int)
  | str (x : Str)
  | tup (xs : List PV)
  | lst (xs : List PV)
  | dct (ks : List Key) (xs : List PV)
  | ref (r : Nat)
  | con (a : Addr)
  | rol (xs : List PV)
  | exc (c : Str)
  | fn (x : Str)
/-- a thing that may change -/
inductive PO where
  | lst (xs : List PV)
  | dct (ks : List Key) (xs : List PV)
  | ins (C : Addr) (ns : List Str) (xs : List PV)
/-- ghosts: the frozen addresses; where the cells stand -/
structure Gh where
  F : Addr → Prop
  al : List Addr
/-- the kinds that are read -/
def Plain : HO → Prop
  | .lst _ => True
  | .tup _ => True
  | .dK _ => True
  | _ => False
def noHp : Hp := fun _ => none
section
variable (K : PySem.W.Frag) (G : Gh) (H : Hp)
def FzL (a : Addr) (us : List V) : Prop := us.length ≤ sizeLine ∧ ((G.F a ∧ Rd H a (.lst us)) ∨ SqL K noHp a us)
def FzT (a : Addr) (us : List V) : Prop := us.length ≤ sizeLine ∧ ((G.F a ∧ Rd H a (.tup us)) ∨ SqT K noHp a us)
mutual
def RepV : PV → V → Prop
  | .non, v => v = .non
  | .bl b, v => v = .bl b
  | .int i, v => v = .int i
  | .str x, v => v = .str x
  | .tup xs, v => ∃ a us, v = .ref a ∧ FzT K G H a us ∧ RepVs xs us
  | .lst xs, v => ∃ a us, v = .ref a ∧ (us.length ≤ sizeLine ∧ G.F a ∧ Rd H a (.lst us)) ∧ RepVs xs us
  | .dct ks xs, v => ∃ a kvs, v = .ref a ∧ (G.F a ∧ Rd H a (.dK kvs)) ∧ kvs.length ≤ sizeLine ∧ kvs.map (·.1) = ks ∧ RepVs xs (kvs.map (·.2))
  | .ref r, v => ∃ a, v = .ref a ∧ G.al[r]? = some a
  | .con a, v => v = .ref a
  | .rol xs, v => ∃ a us, v = .ref a ∧ FzL K G H a us ∧ RepVs xs us
  | .exc c, v => ∃ a, v = .ref a ∧ G.F a ∧ ∃ oe C, H a = some (.frz oe (.own a)) ∧ Zc (.ref C) none oe ∧ (∃ vs, oe.data = .fields vs) ∧ PySem.W.nsIn K mainGlobals c = some (some (.ref C))
  | .fn x, v => ∃ f, v = .ref f ∧ PySem.W.nsIn K mainGlobals x = some (some (.ref f))
def RepVs : List PV → List V → Prop
  | [], us => us = []
  | x :: xs, us => ∃ u ws, us = u :: ws ∧ RepV x u ∧ RepVs xs ws
end
def RepO : PO → HO → Prop
  | .lst xs, o => ∃ us, o = .lst us ∧ us.length ≤ sizeLine ∧ RepVs K G H xs us
  | .dct ks xs, o => ∃ kvs, o = .dK kvs ∧ kvs.length ≤ sizeLine ∧ kvs.map (·.1) = ks ∧ RepVs K G H xs (kvs.map (·.2))
  | .ins C ns xs, o => ∃ dx fs, o = .ins C dx fs ∧ fs.map (·.1) = ns ∧ RepVs K G H xs (fs.map (·.2))
end

/-- what later states keep of values -/
structure Ext (G : Gh) (H : Hp) (G' : Gh) (H' : Hp) : Prop where
  f : ∀ a, G.F a → G'.F a
  rd : ∀ a u, G.F a → Plain u → Rd H a u → Rd H' a u
  al : ∀ (r : Nat) (a : Addr), G.al[r]? = some a → G'.al[r]? = some a
  fz : ∀ a o u, G.F a → H a = some (.frz o u) → H' a = some (.frz o u)
theorem Ext.refl (G : Gh) (H : Hp) : Ext G H G H := ⟨fun _ h => h, fun _ _ _ _ h => h, fun _ _ h => h, fun _ _ _ _ h => h⟩
theorem Ext.trans {G0 G1 G2 : Gh} {H0 H1 H2 : Hp} (x : Ext G0 H0 G1 H1) (y : Ext G1 H1 G2 H2) : Ext G0 H0 G2 H2 :=
  ⟨fun a h => y.f a (x.f a h), fun a u h p r => y.rd a u (x.f a h) p (x.rd a u h p r), fun r a h => y.al r a (x.al r a h), fun a o u h r => y.fz a o u (x.f a h) (x.fz a o u h r)⟩

section
variable {K : PySem.W.Frag} {G G' : Gh} {H H' : Hp}
theorem FzL.mono (x : Ext G H G' H') {a : Addr} {us : List V} (h : FzL K G H a us) : FzL K G' H' a us :=
  ⟨h.1, h.2.imp (fun ⟨f, r⟩ => ⟨x.f a f, x.rd a _ f trivial r⟩) id⟩
theorem FzT.mono (x : Ext G H G' H') {a : Addr} {us : List V} (h : FzT K G H a us) : FzT K G' H' a us :=
  ⟨h.1, h.2.imp (fun ⟨f, r⟩ => ⟨x.f a f, x.rd a _ f trivial r⟩) id⟩
theorem FzL.sq {a : Addr} {us : List V} (h : FzL K G H a us) : SqL K H a us := by
  rcases h.2 with ⟨_, r⟩ | r
  · exact .inl r
  · rcases r with (r | ⟨o, r⟩) | r
    · cases r
    · cases r
    · exact .inr r
theorem FzT.sq {a : Addr} {us : List V} (h : FzT K G H a us) : SqT K H a us := by
  rcases h.2 with ⟨_, r⟩ | r
  · exact .inl r
  · rcases r with (r | ⟨o, r⟩) | r
    · cases r
    · cases r
    · exact .inr r
mutual
theorem RepV.mono (x : Ext G H G' H') : ∀ (p : PV) (v : V), RepV K G H p v → RepV K G' H' p v
  | .non, v, h => h
  | .bl b, v, h => h
  | .int i, v, h => h
  | .str s, v, h => h
  | .tup xs, v, h => by
    simp only [RepV] at h ⊢
    obtain ⟨a, us, e, f, r⟩ := h
    exact ⟨a, us, e, f.mono x, RepVs.mono x xs us r⟩
  | .lst xs, v, h => by
    simp only [RepV] at h ⊢
    obtain ⟨a, us, e, ⟨f0, f1, f2⟩, r⟩ := h
    exact ⟨a, us, e, ⟨f0, x.f a f1, x.rd a _ f1 trivial f2⟩, RepVs.mono x xs us r⟩
  | .rol xs, v, h => by
    simp only [RepV] at h ⊢
    obtain ⟨a, us, e, f, r⟩ := h
    exact ⟨a, us, e, f.mono x, RepVs.mono x xs us r⟩
  | .dct ks xs, v, h => by
    simp only [RepV] at h ⊢
    obtain ⟨a, us, e, ⟨f1, f2⟩, z, k, r⟩ := h
    exact ⟨a, us, e, ⟨x.f a f1, x.rd a _ f1 trivial f2⟩, z, k, RepVs.mono x xs _ r⟩
  | .ref r, v, h => by
    simp only [RepV] at h ⊢
    obtain ⟨a, e, q⟩ := h
    exact ⟨a, e, x.al r a q⟩
  | .con a, v, h => h
  | .exc c, v, h => by
    simp only [RepV] at h ⊢
    obtain ⟨a, e, f, oe, C, h1, r⟩ := h
    exact ⟨a, e, x.f a f, oe, C, x.fz a oe _ f h1, r⟩
  | .fn y, v, h => by
    simp only [RepV] at h ⊢
    exact h
theorem RepVs.mono (x : Ext G H G' H') : ∀ (ps : List PV) (vs : List V), RepVs K G H ps vs → RepVs K G' H' ps vs
  | [], vs, h => h
  | p :: ps, vs, h => by
    simp only [RepVs] at h ⊢
    obtain ⟨u, ws, e, r, rs⟩ := h
    exact ⟨u, ws, e, RepV.mono x p u r, RepVs.mono x ps ws rs⟩
end
theorem RepO.mono (x : Ext G H G' H') {o : PO} {u : HO} (h : RepO K G H o u) : RepO K G' H' o u := by
  cases o with
  | lst xs => obtain ⟨us, e, z, r⟩ := h; exact ⟨us, e, z, RepVs.mono x _ _ r⟩
  | dct ks xs => obtain ⟨us, e, z, k, r⟩ := h; exact ⟨us, e, z, k, RepVs.mono x _ _ r⟩
  | ins C ns xs => obtain ⟨dx, us, e, k, r⟩ := h; exact ⟨dx, us, e, k, RepVs.mono x _ _ r⟩
theorem RepVs.nil_iff {vs : List V} : RepVs K G H [] vs ↔ vs = [] := by simp only [RepVs]
theorem RepVs.cons_iff {p : PV} {ps : List PV} {vs : List V} : RepVs K G H (p :: ps) vs ↔ ∃ u ws, vs = u :: ws ∧ RepV K G H p u ∧ RepVs K G H ps ws := by simp only [RepVs]
theorem RepVs.nil : RepVs K G H [] [] := RepVs.nil_iff.mpr rfl
theorem RepVs.cons {p : PV} {ps : List PV} {v : V} {vs : List V} (h : RepV K G H p v) (t : RepVs K G H ps vs) : RepVs K G H (p :: ps) (v :: vs) := RepVs.cons_iff.mpr ⟨v, vs, rfl, h, t⟩
theorem RepVs.length : ∀ {ps : List PV} {vs : List V}, RepVs K G H ps vs → ps.length = vs.length
  | [], vs, h => by rw [RepVs.nil_iff.mp h]; rfl
  | p :: ps, vs, h => by
    obtain ⟨u, ws, rfl, _, t⟩ := RepVs.cons_iff.mp h
    simp [RepVs.length t]
theorem RepVs.append : ∀ {ps qs : List PV} {vs ws : List V}, RepVs K G H ps vs → RepVs K G H qs ws → RepVs K G H (ps ++ qs) (vs ++ ws)
  | [], qs, vs, ws, h, g => by rw [RepVs.nil_iff.mp h]; exact g
  | p :: ps, qs, vs, ws, h, g => by
    obtain ⟨u, us, rfl, r, t⟩ := RepVs.cons_iff.mp h
    exact RepVs.cons r (RepVs.append t g)
theorem RepVs.get : ∀ {ps : List PV} {vs : List V} {i : Nat} {p : PV}, RepVs K G H ps vs → ps[i]? = some p → ∃ v, vs[i]? = some v ∧ RepV K G H p v
  | [], vs, i, p, h, e => by simp at e
  | q :: ps, vs, i, p, h, e => by
    obtain ⟨u, us, rfl, r, t⟩ := RepVs.cons_iff.mp h
    cases i with
    | zero => simp at e; subst e; exact ⟨u, rfl, r⟩
    | succ i => exact RepVs.get (i := i) t (by simpa using e)
theorem RepVs.getV : ∀ {ps : List PV} {vs : List V} {i : Nat} {v : V}, RepVs K G H ps vs → vs[i]? = some v → ∃ p, ps[i]? = some p ∧ RepV K G H p v
  | [], vs, i, p, h, e => by rw [RepVs.nil_iff.mp h] at e; simp at e
  | q :: ps, vs, i, p, h, e => by
    obtain ⟨u, us, rfl, r, t⟩ := RepVs.cons_iff.mp h
    cases i with
    | zero => simp at e; subst e; exact ⟨q, rfl, r⟩
    | succ i => exact RepVs.getV (i := i) t (by simpa using e)
theorem RepVs.take : ∀ {ps : List PV} {vs : List V} (n : Nat), RepVs K G H ps vs → RepVs K G H (ps.take n) (vs.take n)
  | ps, vs, 0, h => by simpa using RepVs.nil
  | [], vs, n + 1, h => by rw [RepVs.nil_iff.mp h]; simpa using RepVs.nil
  | p :: ps, vs, n + 1, h => by
    obtain ⟨u, us, rfl, r, t⟩ := RepVs.cons_iff.mp h
    exact RepVs.cons r (RepVs.take n t)
theorem RepVs.drop : ∀ {ps : List PV} {vs : List V} (n : Nat), RepVs K G H ps vs → RepVs K G H (ps.drop n) (vs.drop n)
  | ps, vs, 0, h => by simpa using h
  | [], vs, n + 1, h => by rw [RepVs.nil_iff.mp h]; simpa using RepVs.nil
  | p :: ps, vs, n + 1, h => by
    obtain ⟨u, us, rfl, r, t⟩ := RepVs.cons_iff.mp h
    exact RepVs.drop n t
theorem RepVs.set : ∀ {ps : List PV} {vs : List V} {p : PV} {v : V} (i : Nat), RepVs K G H ps vs → RepV K G H p v → RepVs K G H (ps.set i p) (vs.set i v)
  | [], vs, p, v, i, h, _ => by rw [RepVs.nil_iff.mp h]; exact RepVs.nil
  | q :: ps, vs, p, v, i, h, k => by
    obtain ⟨u, us, rfl, r, t⟩ := RepVs.cons_iff.mp h
    cases i with
    | zero => exact RepVs.cons k t
    | succ i => exact RepVs.cons r (RepVs.set i t k)
theorem RepVs.eraseIdx : ∀ {ps : List PV} {vs : List V} (i : Nat), RepVs K G H ps vs → RepVs K G H (ps.eraseIdx i) (vs.eraseIdx i)
  | [], vs, i, h => by rw [RepVs.nil_iff.mp h]; exact RepVs.nil
  | q :: ps, vs, i, h => by
    obtain ⟨u, us, rfl, r, t⟩ := RepVs.cons_iff.mp h
    cases i with
    | zero => exact t
    | succ i => exact RepVs.cons r (RepVs.eraseIdx i t)
theorem RepVs.reverse : ∀ {ps : List PV} {vs : List V}, RepVs K G H ps vs → RepVs K G H ps.reverse vs.reverse
  | [], vs, h => by rw [RepVs.nil_iff.mp h]; exact RepVs.nil
  | q :: ps, vs, h => by
    obtain ⟨u, us, rfl, r, t⟩ := RepVs.cons_iff.mp h
    rw [List.reverse_cons, List.reverse_cons]
    exact (RepVs.reverse t).append (RepVs.cons r RepVs.nil)
theorem RepVs.snoc {ps : List PV} {vs : List V} {p : PV} {v : V} (h : RepVs K G H ps vs) (k : RepV K G H p v) : RepVs K G H (ps ++ [p]) (vs ++ [v]) := h.append (RepVs.cons k RepVs.nil)
theorem RepVs.dropLast {ps : List PV} {vs : List V} (h : RepVs K G H ps vs) : RepVs K G H ps.dropLast vs.dropLast := by
  rw [List.dropLast_eq_take, List.dropLast_eq_take, h.length]
  exact h.take _
end

/-- a slot: a value, or a thing that this slot alone holds -/
inductive LV where
  | v (p : PV)
  | own (o : PO)
/-- slots and cells -/
structure Mem where
  r : List (Option LV)
  h : List PO
/-- no object of its own kind -/
def NoX (u : HO) : Prop := (∀ φ, u ≠ .ext φ) ∧ ∀ ps, u ≠ .tbl ps
theorem RepO.nox {K : PySem.W.Frag} {G : Gh} {H : Hp} {o : PO} {u : HO} (h : RepO K G H o u) : NoX u := by
  cases o with
  | lst xs => obtain ⟨us, rfl, _⟩ := h; exact ⟨fun _ z => (nomatch z), fun _ z => (nomatch z)⟩
  | dct ks xs => obtain ⟨kvs, rfl, _⟩ := h; exact ⟨fun _ z => (nomatch z), fun _ z => (nomatch z)⟩
  | ins C ns xs => obtain ⟨dx, fs, rfl, _⟩ := h; exact ⟨fun _ z => (nomatch z), fun _ z => (nomatch z)⟩
/-- the tables of code objects: they and what they hold are nobody's cells and not frozen -/
def TabsOk (T : List NdefX.NTab) (G : Gh) (H : Hp) : Prop := ∀ p ∈ T, ∃ ps : Array Value, H p.1 = some (.tbl ps) ∧ TriplesOk ps.toList ∧ p.1 ∉ G.al ∧ ¬ G.F p.1 ∧
  ∀ (pos : Pos) (cv : Value), codeAmong pos ps.toList = some cv → ∃ c, cv = .ref c ∧ H c = some (LamX.CodeO c (p.2 pos.line pos.col)) ∧ c ∉ G.al ∧ ¬ G.F c
theorem TabsOk.step {T : List NdefX.NTab} {G G' : Gh} {H H' : Hp} (t : TabsOk T G H) (h : ∀ a u, H a = some u → ¬ NoX u → a ∉ G.al → ¬ G.F a → H' a = some u ∧ a ∉ G'.al ∧ ¬ G'.F a) : TabsOk T G' H' := fun p hp => by
  obtain ⟨ps, h1, h2, h3, h4, h5⟩ := t p hp
  obtain ⟨k1, k2, k3⟩ := h _ _ h1 (fun z => z.2 _ rfl) h3 h4
  refine ⟨ps, k1, h2, k2, k3, fun pos cv e => ?_⟩
  obtain ⟨c, e1, e2, e3, e4⟩ := h5 pos cv e
  obtain ⟨j1, j2, j3⟩ := h _ _ e2 (fun z => z.1 _ rfl) e3 e4
  exact ⟨c, e1, j1, j2, j3⟩
/-- the entry of a def -/
structure Ent where
  G : Gh
  H : Hp
  T : List NdefX.NTab
  ok : TabsOk T G H
structure HpRep (K : PySem.W.Frag) (G : Gh) (h : List PO) (H : Hp) : Prop where
  fdom : ∀ a, G.F a → ∃ u, H a = some u ∧ NoX u
  nd : G.al.Nodup
  len : h.length = G.al.length
  obj : ∀ (r : Nat) (a : Addr) (o : PO), G.al[r]? = some a → h[r]? = some o → ¬ G.F a ∧ ∃ u, H a = some u ∧ RepO K G H o u
structure Post (T : List NdefX.NTab) (G0 : Gh) (H0 : Hp) (G : Gh) (H : Hp) : Prop where
  f : ∀ a, G0.F a → G.F a
  fnew : ∀ a, G.F a → G0.F a ∨ H0 a = none
  al : ∃ l, G.al = G0.al ++ l ∧ ∀ a ∈ l, H0 a = none
  keep : ∀ a u, H0 a = some u → a ∉ G0.al → ¬ G0.F a → (∀ ps, u ≠ .tbl ps) → H a = some u
  tabs : TabsOk T G0 H0 → TabsOk T G H
  rd : ∀ a u, G0.F a → Plain u → Rd H0 a u → Rd H a u
  dom : ∀ a, H a = none → H0 a = none
  fz : ∀ a o u, G0.F a → H0 a = some (.frz o u) → H a = some (.frz o u)
theorem Post.refl (T : List NdefX.NTab) (G : Gh) (H : Hp) : Post T G H G H := ⟨fun _ h => h, fun _ h => .inl h, ⟨[], by simp, by simp⟩, fun _ _ h _ _ _ => h, fun h => h, fun _ _ _ _ h => h, fun _ h => h, fun _ _ _ _ h => h⟩
theorem Post.ext {T : List NdefX.NTab} {G0 : Gh} {H0 : Hp} {G : Gh} {H : Hp} (p : Post T G0 H0 G H) : Ext G0 H0 G H := by
  refine ⟨p.f, p.rd, fun r a h => ?_, p.fz⟩
  obtain ⟨l, e, _⟩ := p.al
  rw [e, List.getElem?_append_left (List.getElem?_eq_some_iff.mp h).1]
  exact h
theorem Post.noal {T : List NdefX.NTab} {G0 : Gh} {H0 : Hp} {G : Gh} {H : Hp} (p : Post T G0 H0 G H) {a : Addr} {u : HO} (h : H0 a = some u) (n : a ∉ G0.al) : a ∉ G.al := by
  obtain ⟨l, e, q⟩ := p.al
  rw [e, List.mem_append]
  rintro (z | z)
  · exact n z
  · rw [q a z] at h; cases h
theorem Post.nof {T : List NdefX.NTab} {G0 : Gh} {H0 : Hp} {G : Gh} {H : Hp} (p : Post T G0 H0 G H) {a : Addr} {u : HO} (h : H0 a = some u) (n : ¬ G0.F a) : ¬ G.F a := fun z => by
  rcases p.fnew a z with z | z
  · exact n z
  · rw [z] at h; cases h
theorem Post.trans {T : List NdefX.NTab} {G0 G1 G2 : Gh} {H0 H1 H2 : Hp} (p : Post T G0 H0 G1 H1) (q : Post T G1 H1 G2 H2) : Post T G0 H0 G2 H2 := by
  refine ⟨fun a h => q.f a (p.f a h), fun a h => ?_, ?_, fun a u h n m nt => ?_, fun t => q.tabs (p.tabs t), fun a u h pl r => q.rd a u (p.f a h) pl (p.rd a u h pl r), fun a h => p.dom a (q.dom a h), fun a o u h r => q.fz a o u (p.f a h) (p.fz a o u h r)⟩
  · rcases q.fnew a h with z | z
    · exact p.fnew a z
    · exact .inr (p.dom a z)
  · obtain ⟨l, e, x⟩ := p.al
    obtain ⟨l', e', x'⟩ := q.al
    refine ⟨l ++ l', by rw [e', e, List.append_assoc], fun a ha => ?_⟩
    rcases List.mem_append.mp ha with z | z
    · exact x a z
    · exact p.dom a (x' a z)
  · exact q.keep a u (p.keep a u h n m nt) (p.noal h n) (p.nof h m) nt

/-- an address that a slot alone holds -/
def OwnAt (r : List (Option LV)) (s : L2.St) (a : Addr) : Prop := ∃ (i : Nat) (o : PO), r[i]? = some (some (LV.own o)) ∧ s[i]? = some (some (V.ref a))
structure StRep (K : PySem.W.Frag) (E : Ent) (G : Gh) (M : Mem) (s : L2.St) (H : Hp) : Prop where
  post : Post E.T E.G E.H G H
  hp : HpRep K G M.h H
  len : M.r.length = s.length
  slot : ∀ (i : Nat) (p : PV), M.r[i]? = some (some (.v p)) → ∃ u, s[i]? = some (some u) ∧ RepV K G H p u
  own : ∀ (i : Nat) (o : PO), M.r[i]? = some (some (.own o)) → ∃ a u, s[i]? = some (some (.ref a)) ∧ H a = some u ∧ RepO K G H o u ∧ E.H a = none ∧ ¬ G.F a ∧ a ∉ G.al
  sep : ∀ (i j : Nat) (o o' : PO) (a : Addr), M.r[i]? = some (some (.own o)) → M.r[j]? = some (some (.own o')) → s[i]? = some (some (.ref a)) → s[j]? = some (some (.ref a)) → i = j
/-- what an expression's run keeps -/
structure Evo (s : L2.St) (G : Gh) (M : Mem) (H : Hp) (G' : Gh) (M' : Mem) (H' : Hp) : Prop where
  ext : Ext G H G' H'
  keep : ∀ a u, H a = some u → a ∉ G.al → ¬ G.F a → ¬ OwnAt M.r s a → (∀ ps, u ≠ .tbl ps) → H' a = some u ∧ a ∉ G'.al ∧ ¬ G'.F a
  own : ∀ a, OwnAt M'.r s a → OwnAt M.r s a
  dom : ∀ a, H' a = none → H a = none
theorem Evo.refl (s : L2.St) (G : Gh) (M : Mem) (H : Hp) : Evo s G M H G M H := ⟨Ext.refl _ _, fun _ _ h a b c _ => ⟨h, a, b⟩, fun _ h => h, fun _ h => h⟩
theorem Evo.trans {s : L2.St} {G0 G1 G2 : Gh} {M0 M1 M2 : Mem} {H0 H1 H2 : Hp} (x : Evo s G0 M0 H0 G1 M1 H1) (y : Evo s G1 M1 H1 G2 M2 H2) : Evo s G0 M0 H0 G2 M2 H2 :=
  ⟨x.ext.trans y.ext, fun a u h n f o nt => by obtain ⟨h1, n1, f1⟩ := x.keep a u h n f o nt; exact y.keep a u h1 n1 f1 (fun z => o (x.own a z)) nt, fun a h => x.own a (y.own a h), fun a h => x.dom a (y.dom a h)⟩

/-- what an expression gives: a value; a new thing that nothing else holds; the thing that a slot alone holds -/
inductive EV where
  | v (p : PV)
  | fr (o : PO)
  | sl (i : Nat)
/-- H0: the heap as the expression's run began -/
def RepE (K : PySem.W.Frag) (E : Ent) (H0 : Hp) (G : Gh) (M : Mem) (s : L2.St) (H : Hp) : EV → V → Prop
  | .v p, u => RepV K G H p u
  | .fr o, u => ∃ a w, u = .ref a ∧ H a = some w ∧ RepO K G H o w ∧ E.H a = none ∧ ¬ G.F a ∧ a ∉ G.al ∧ ¬ OwnAt M.r s a ∧ H0 a = none
  | .sl i, u => s[i]? = some (some u)
theorem RepE.evo {K : PySem.W.Frag} {E : Ent} {s : L2.St} {G G' : Gh} {M M' : Mem} {H0 H H' : Hp} (x : Evo s G M H G' M' H') : ∀ {e : EV} {u : V}, RepE K E H0 G M s H e u → RepE K E H0 G' M' s H' e u
  | .v p, u, h => RepV.mono x.ext p u h
  | .fr o, u, ⟨a, w, e, h, r, n, f, l, ow, z⟩ => by
    obtain ⟨h1, l1, f1⟩ := x.keep a w h l f ow r.nox.2
    exact ⟨a, w, e, h1, r.mono x.ext, n, f1, l1, fun y => ow (x.own a y), z⟩
  | .sl i, u, h => h
theorem RepE.old {K : PySem.W.Frag} {E : Ent} {s : L2.St} {G : Gh} {M : Mem} {H0 H1 H : Hp} (x : ∀ a, H1 a = none → H0 a = none) : ∀ {e : EV} {u : V}, RepE K E H1 G M s H e u → RepE K E H0 G M s H e u
  | .v p, u, h => h
  | .fr o, u, ⟨a, w, e, h, r, n, f, l, ow, z⟩ => ⟨a, w, e, h, r, n, f, l, ow, x a z⟩
  | .sl i, u, h => h
/-- a def's answer, seen by the caller -/
def RepR (K : PySem.W.Frag) (H0 : Hp) (G : Gh) (H : Hp) : EV → V → Prop
  | .v p, u => RepV K G H p u
  | .fr o, u => ∃ a w, u = .ref a ∧ H a = some w ∧ RepO K G H o w ∧ H0 a = none ∧ ¬ G.F a ∧ a ∉ G.al
  | .sl _, _ => False

/-! ### steps of the ghosts -/
section
variable {K : PySem.W.Frag} {E : Ent} {G : Gh} {M : Mem} {s : L2.St} {H : Hp}
theorem Rd.upd_ne {H : Hp} {a p : Addr} {o u : HO} (n : a ≠ p) (h : Rd H a u) : Rd (upd H p o) a u := by
  rcases h with h | ⟨x, h⟩
  · exact .inl (by rw [L2.upd_ne n]; exact h)
  · exact .inr ⟨x, by rw [L2.upd_ne n]; exact h⟩
theorem HpRep.nF (h : HpRep K G M.h H) {p : Addr} (hp : H p = none) : ¬ G.F p := fun z => by
  obtain ⟨u, e, _⟩ := h.fdom p z
  rw [hp] at e; cases e
theorem HpRep.nAl {hh : List PO} (h : HpRep K G hh H) {p : Addr} (hp : H p = none) : p ∉ G.al := fun z => by
  obtain ⟨r, hr⟩ := List.getElem?_of_mem z
  have hl : r < hh.length := by rw [h.len]; exact (List.getElem?_eq_some_iff.mp hr).1
  obtain ⟨_, u, e, _⟩ := h.obj r p hh[r] hr (List.getElem?_eq_getElem hl)
  rw [e] at hp; cases hp
/-- a write at an address that is not frozen: values stay -/
theorem ext_upd {p : Addr} {o : HO} (nf : ¬ G.F p) : Ext G H G (upd H p o) :=
  ⟨fun _ h => h, fun a u f _ r => Rd.upd_ne (fun e => nf (e ▸ f)) r, fun _ _ h => h, fun a o u f r => by rw [L2.upd_ne (show a ≠ p from fun e => nf (e ▸ f))]; exact r⟩
theorem post_upd {T : List NdefX.NTab} {G0 : Gh} {H0 : Hp} {p : Addr} {o : HO} (x : Post T G0 H0 G H) (nf : ¬ G.F p) (h : p ∈ G.al ∨ H0 p = none) (nx : ∀ u, H p = some u → NoX u) : Post T G0 H0 G (upd H p o) := by
  refine ⟨x.f, x.fnew, x.al, fun a u e n m nt => ?_, fun t => (x.tabs t).step fun a u e nn n m => ⟨?_, n, m⟩, fun a u f pl r => ?_, fun a e => ?_, fun a o' u f r => by rw [L2.upd_ne (show a ≠ p from fun z => nf (z ▸ x.f a f))]; exact x.fz a o' u f r⟩
  · have ne : a ≠ p := fun z => by
      subst z
      rcases h with h | h
      · exact x.noal e n h
      · rw [h] at e; cases e
    rw [L2.upd_ne ne]
    exact x.keep a u e n m nt
  · have ne : a ≠ p := fun z => by subst z; exact nn (nx u e)
    rw [L2.upd_ne ne]; exact e
  · exact Rd.upd_ne (fun z => nf (z ▸ x.f a f)) (x.rd a u f pl r)
  · by_cases z : a = p
    · subst z; rw [upd_same] at e; cases e
    · rw [L2.upd_ne z] at e
      exact x.dom a e
theorem hprep_upd {hh : List PO} {p : Addr} {o : HO} (x : HpRep K G hh H) (nf : ¬ G.F p) (na : p ∉ G.al) : HpRep K G hh (upd H p o) := by
  refine ⟨fun a f => ?_, x.nd, x.len, fun r a ob e e' => ?_⟩
  · obtain ⟨u, e, n⟩ := x.fdom a f
    exact ⟨u, by rw [L2.upd_ne (fun z => nf (by rw [← z]; exact f))]; exact e, n⟩
  · obtain ⟨f, u, q, rr⟩ := x.obj r a ob e e'
    exact ⟨f, u, by rw [L2.upd_ne (fun z => na (by rw [← z]; exact List.mem_of_getElem? e))]; exact q, rr.mono (ext_upd nf)⟩
/-- a new object is laid -/
theorem StRep.laid (R : StRep K E G M s H) {p : Addr} (o : HO) (hp : H p = none) : StRep K E G M s (upd H p o) ∧ Evo s G M H G M (upd H p o) ∧ E.H p = none ∧ ¬ G.F p ∧ p ∉ G.al ∧ ¬ OwnAt M.r s p := by
  have nf := R.hp.nF hp
  have na := R.hp.nAl hp
  have eh := R.post.dom p hp
  have x := ext_upd (H := H) (o := o) nf
  refine ⟨⟨post_upd R.post nf (.inr eh) (fun u z => by rw [hp] at z; cases z), hprep_upd R.hp nf na, R.len, fun i q e => ?_, fun i ob e => ?_, R.sep⟩, ⟨x, fun a u e n f ow _ => ⟨?_, n, f⟩, fun _ h => h, fun a e => ?_⟩, eh, nf, na, fun ⟨i, ob, e, e'⟩ => ?_⟩
  · obtain ⟨u, h1, h2⟩ := R.slot i q e
    exact ⟨u, h1, RepV.mono x _ _ h2⟩
  · obtain ⟨a, u, h1, h2, h3, h4⟩ := R.own i ob e
    exact ⟨a, u, h1, by rw [L2.upd_ne (ne_of_none h2 hp)]; exact h2, h3.mono x, h4⟩
  · rw [L2.upd_ne (ne_of_none e hp)]; exact e
  · by_cases z : a = p
    · subst z; rw [upd_same] at e; cases e
    · rwa [L2.upd_ne z] at e
  · obtain ⟨a, u, h1, h2, _⟩ := R.own i ob e
    rw [h1] at e'
    cases e'
    rw [h2] at hp; cases hp
/-- the ghosts with one more frozen address -/
def Gh.fz (G : Gh) (p : Addr) : Gh := ⟨fun a => G.F a ∨ a = p, G.al⟩
theorem Gh.ext_fz (G : Gh) (H : Hp) (p : Addr) : Ext G H (G.fz p) H := ⟨fun _ h => .inl h, fun _ _ _ _ h => h, fun _ _ h => h, fun _ _ _ _ h => h⟩
/-- freezing what nothing holds but a value to be -/
theorem StRep.frozen (R : StRep K E G M s H) {p : Addr} {u : HO} (hp : H p = some u) (eh : E.H p = none) (na : p ∉ G.al) (no : ¬ OwnAt M.r s p) (nx : NoX u := by exact ⟨fun _ z => (nomatch z), fun _ z => (nomatch z)⟩) : StRep K E (G.fz p) M s H := by
  have x := G.ext_fz H p
  refine ⟨⟨fun a h => .inl (R.post.f a h), fun a h => ?_, R.post.al, R.post.keep, fun t => (R.post.tabs t).step fun a v e nn n m => ⟨e, n, fun z => z.elim m fun z => by subst z; rw [hp] at e; cases e; exact nn nx⟩, R.post.rd, R.post.dom, R.post.fz⟩, ⟨fun a h => ?_, R.hp.nd, R.hp.len, fun r a o e e' => ?_⟩, R.len, fun i q e => ?_, fun i o e => ?_, R.sep⟩
  · rcases h with h | h
    · exact R.post.fnew a h
    · exact .inr (h ▸ eh)
  · rcases h with h | h
    · exact R.hp.fdom a h
    · exact ⟨u, by rw [h]; exact hp, nx⟩
  · obtain ⟨f, w, q, rr⟩ := R.hp.obj r a o e e'
    refine ⟨fun z => z.elim f fun z => na (z ▸ List.mem_of_getElem? e), w, q, rr.mono x⟩
  · obtain ⟨w, h1, h2⟩ := R.slot i q e
    exact ⟨w, h1, RepV.mono x _ _ h2⟩
  · obtain ⟨a, w, h1, h2, h3, h4, h5, h6⟩ := R.own i o e
    exact ⟨a, w, h1, h2, h3.mono x, h4, fun z => z.elim h5 fun z => no ⟨i, o, e, z ▸ h1⟩, h6⟩
theorem Evo.frozen {G0 : Gh} {M0 : Mem} {H0 : Hp} (x : Evo s G0 M0 H0 G M H) {p : Addr} (h : H0 p = none ∨ OwnAt M0.r s p) : Evo s G0 M0 H0 (G.fz p) M H := by
  refine ⟨x.ext.trans (G.ext_fz H p), fun a u e n f o nt => ?_, x.own, x.dom⟩
  obtain ⟨h1, h2, h3⟩ := x.keep a u e n f o nt
  refine ⟨h1, h2, fun z => z.elim h3 fun z => ?_⟩
  subst z
  rcases h with h | h
  · rw [h] at e; cases e
  · exact o h
/-- slots are forgotten, or told by less -/
theorem StRep.slots (R : StRep K E G M s H) {r' : List (Option LV)} (hl : r'.length = M.r.length) (h : ∀ (i : Nat) (x : LV), r'[i]? = some (some x) → M.r[i]? = some (some x) ∨ ∃ p u, x = .v p ∧ s[i]? = some (some u) ∧ RepV K G H p u) :
    StRep K E G ⟨r', M.h⟩ s H := by
  refine ⟨R.post, R.hp, hl.trans R.len, fun i q e => ?_, fun i o e => ?_, fun i j o o' a e e' => ?_⟩
  · rcases h i _ e with z | ⟨p, u, z, e1, e2⟩
    · exact R.slot i q z
    · cases z; exact ⟨u, e1, e2⟩
  · rcases h i _ e with z | ⟨p, u, z, e1, e2⟩
    · exact R.own i o z
    · cases z
  · rcases h i _ e with z | ⟨p, u, z, e1, e2⟩
    · rcases h j _ e' with z' | ⟨p', u', z', e1', e2'⟩
      · exact R.sep i j o o' a z z'
      · cases z'
    · cases z
/-- the thing of a slot is written -/
theorem StRep.wrote (R : StRep K E G M s H) {i : Nat} {o o' : PO} {a : Addr} {u' : HO} (hi : M.r[i]? = some (some (.own o))) (hs : s[i]? = some (some (.ref a))) (ho : RepO K G H o' u') :
    StRep K E G ⟨M.r.set i (some (.own o')), M.h⟩ s (upd H a u') ∧ Evo s G M H G ⟨M.r.set i (some (.own o')), M.h⟩ (upd H a u') := by
  obtain ⟨b, w, h1, h2, h3, h4, h5, h6⟩ := R.own i o hi
  have eb : b = a := by rw [hs] at h1; cases h1; rfl
  subst eb
  have x := ext_upd (H := H) (o := u') h5
  have lt : i < M.r.length := (List.getElem?_eq_some_iff.mp hi).1
  have isown : ∀ (j : Nat) (o2 : PO), (M.r.set i (some (.own o')))[j]? = some (some (.own o2)) → ∃ o3, M.r[j]? = some (some (.own o3)) := fun j o2 e => by
    by_cases z : i = j
    · subst z; exact ⟨o, hi⟩
    · rw [List.getElem?_set_ne z] at e; exact ⟨o2, e⟩
  refine ⟨⟨post_upd R.post h5 (.inr h4) (fun u z => by rw [h2] at z; cases z; exact h3.nox), hprep_upd R.hp h5 h6, by simp [R.len], fun j q e => ?_, fun j ob e => ?_, fun j k o1 o2 c e e' => ?_⟩, ⟨x, fun c v e n f ow _ => ⟨?_, n, f⟩, fun c ⟨j, o2, e, e'⟩ => ?_, fun c e => ?_⟩⟩
  · by_cases z : i = j
    · subst z; rw [List.getElem?_set_self lt] at e; cases e
    · rw [List.getElem?_set_ne z] at e
      obtain ⟨v, k1, k2⟩ := R.slot j q e
      exact ⟨v, k1, RepV.mono x _ _ k2⟩
  · by_cases z : i = j
    · subst z; rw [List.getElem?_set_self lt] at e; cases e
      exact ⟨b, u', hs, upd_same, ho.mono x, h4, h5, h6⟩
    · rw [List.getElem?_set_ne z] at e
      obtain ⟨c, v, k1, k2, k3, k4⟩ := R.own j ob e
      have ne : c ≠ b := fun y => z (R.sep i j o ob b hi e hs (y ▸ k1))
      exact ⟨c, v, k1, by rw [L2.upd_ne ne]; exact k2, k3.mono x, k4⟩
  · obtain ⟨o3, e3⟩ := isown j o1 e
    obtain ⟨o4, e4⟩ := isown k o2 e'
    exact R.sep j k o3 o4 c e3 e4
  · rw [L2.upd_ne (fun (z : c = b) => ow ⟨i, o, hi, by rw [z]; exact hs⟩)]; exact e
  · obtain ⟨o3, e3⟩ := isown j o2 e
    exact ⟨j, o3, e3, e'⟩
  · by_cases z : c = b
    · subst z; rw [upd_same] at e; cases e
    · rwa [L2.upd_ne z] at e
/-- a cell is written -/
theorem StRep.celled (R : StRep K E G M s H) {r : Nat} {o o' : PO} {a : Addr} {u' : HO} (hr : M.h[r]? = some o) (ha : G.al[r]? = some a) (ho : RepO K G H o' u') :
    StRep K E G ⟨M.r, M.h.set r o'⟩ s (upd H a u') ∧ Evo s G M H G ⟨M.r, M.h.set r o'⟩ (upd H a u') := by
  obtain ⟨nf, w, h1, h2⟩ := R.hp.obj r a o ha hr
  have x := ext_upd (H := H) (o := u') nf
  have am : a ∈ G.al := List.mem_of_getElem? ha
  have lt : r < M.h.length := (List.getElem?_eq_some_iff.mp hr).1
  have uniq : ∀ (j : Nat), G.al[j]? = some a → j = r := fun j e => nd_ix R.hp.nd e ha
  refine ⟨⟨post_upd R.post nf (.inl am) (fun u z => by rw [h1] at z; cases z; exact h2.nox), ⟨fun b f => ?_, R.hp.nd, by simp [R.hp.len], fun j b ob e e' => ?_⟩, R.len, fun j q e => ?_, fun j ob e => ?_, R.sep⟩, ⟨x, fun c v e n f ow _ => ⟨?_, n, f⟩, fun c h => h, fun c e => ?_⟩⟩
  · obtain ⟨u, e, n⟩ := R.hp.fdom b f
    exact ⟨u, by rw [L2.upd_ne (fun z => nf (by rw [← z]; exact f))]; exact e, n⟩
  · by_cases z : r = j
    · subst z
      rw [ha] at e; cases e
      rw [List.getElem?_set_self lt] at e'; cases e'
      exact ⟨nf, u', upd_same, ho.mono x⟩
    · rw [List.getElem?_set_ne z] at e'
      obtain ⟨f, v, k1, k2⟩ := R.hp.obj j b ob e e'
      have ne : b ≠ a := fun y => z (uniq j (y ▸ e)).symm
      exact ⟨f, v, by rw [L2.upd_ne ne]; exact k1, k2.mono x⟩
  · obtain ⟨v, k1, k2⟩ := R.slot j q e
    exact ⟨v, k1, RepV.mono x _ _ k2⟩
  · obtain ⟨c, v, k1, k2, k3, k4, k5, k6⟩ := R.own j ob e
    have ne : c ≠ a := fun y => k6 (y ▸ am)
    exact ⟨c, v, k1, by rw [L2.upd_ne ne]; exact k2, k3.mono x, k4, k5, k6⟩
  · rw [L2.upd_ne (fun (z : c = a) => n (by rw [z]; exact am))]; exact e
  · by_cases z : c = a
    · subst z; rw [upd_same] at e; cases e
    · rwa [L2.upd_ne z] at e
end
end HF

end
section
set_option Elab.async false
set_option linter.all false
set_option maxRecDepth 20000
set_option autoImplicit false
/-! HF2: what runs give, as functions of slots and cells; the judgements; names, operators, calls of what is built in. -/
namespace HF
open PySem PySem.Spec PyProof.Rows L2

inductive Res (α : Type) where
  | ok (a : α) (M : Mem)
  | exn (c : Str) (M : Mem)
  | bad
@[simp] def Res.bnd {α β : Type} (x : Res α) (f : α → Mem → Res β) : Res β := match x with
  | .ok a M => f a M
  | .exn c M => .exn c M
  | .bad => .bad
abbrev Sm (α : Type) := Mem → Res α

section
variable (X : Cx) (E : Ent) (W : WX)
/-- what is asked of a run's end -/
def OutP {α : Type} (s : L2.St) (G : Gh) (M : Mem) (H : Hp) (r : Res α) (k : Gh → Mem → Hp → α → Prop) : Prop := match r with
  | .ok a M' => ∀ G' H', Evo s G M H G' M' H' → StRep X.K E G' M' s H' → k G' M' H' a
  | .exn c M' => ∀ G' H' C, Ext G H G' H' → StRep X.K E G' M' s H' → X.mg c = some (.ref C) → W (.ref C) none s H'
  | .bad => False
def tE (f : Sm EV) : TE := fun s H Q => ∃ G M, StRep X.K E G M s H ∧ OutP X E W s G M H (f M) fun G' M' H' ev => ∀ u, RepE X.K E H G' M' s H' ev u → Q u H'
def tP (f : Sm PV) : TE := fun s H Q => ∃ G M, StRep X.K E G M s H ∧ OutP X E W s G M H (f M) fun G' _ H' p => ∀ u, RepV X.K G' H' p u → Q u H'
def tB' (f : Sm Bool) : TT := fun s H Q => ∃ G M, StRep X.K E G M s H ∧ OutP X E W s G M H (f M) fun _ _ H' b => Q b H'
def tL (f : Sm (List PV)) : TA := fun s H Q => ∃ G M, StRep X.K E G M s H ∧ OutP X E W s G M H (f M) fun G' _ H' ps => ∀ us, RepVs X.K G' H' ps us → Q us H'
structure FE (e : Expr) (f : Sm EV) : Prop where
  pe : PE X e (tE X E W f)
structure FP (e : Expr) (f : Sm PV) : Prop where
  pe : PE X e (tP X E W f)
structure FT (e : Expr) (f : Sm Bool) : Prop where
  pe : PT X e (tB' X E W f)
structure FW (e : Expr) (f : Sm Bool) : Prop where
  pe : PW X e (tB' X E W f)
structure FA (es : List Expr) (f : Sm (List PV)) : Prop where
  pe : PA X es (tL X E W f)
end
section
variable {X : Cx} {E : Ent} {W : WX}
theorem OutP.imp {α : Type} {s : L2.St} {G : Gh} {M : Mem} {H : Hp} {r : Res α} {k k' : Gh → Mem → Hp → α → Prop} (h : OutP X E W s G M H r k)
    (i : ∀ G' M' H' a, Evo s G M H G' M' H' → StRep X.K E G' M' s H' → k G' M' H' a → k' G' M' H' a) : OutP X E W s G M H r k' := by
  cases r with
  | ok a M' => exact fun G' H' V R => i G' M' H' a V R (h G' H' V R)
  | exn c M' => exact h
  | bad => exact h
/-- two runs in a row -/
theorem OutP.bnd {α β : Type} {s : L2.St} {G : Gh} {M : Mem} {H : Hp} {r : Res α} {f : α → Mem → Res β} {k : Gh → Mem → Hp → β → Prop} (h : OutP X E W s G M H (r.bnd f) k) :
    OutP X E W s G M H r fun G1 M1 H1 a => OutP X E W s G1 M1 H1 (f a M1) k := by
  cases r with
  | ok a M' =>
    intro G1 H1 V1 R1
    have h : OutP X E W s G M H (f a M') k := h
    show OutP X E W s G1 M' H1 (f a M') k
    generalize f a M' = q at h
    cases q with
    | ok b M2 => exact fun G2 H2 V2 R2 => h G2 H2 (V1.trans V2) R2
    | exn c M2 => exact fun G' H' C x R m => h G' H' C (V1.ext.trans x) R m
    | bad => exact h
  | exn c M' => exact h
  | bad => exact h
theorem PE.weak {e : Expr} {t t' : TE} (h : PE X e t) (i : ∀ s H Q, t' s H Q → t s H Q) : PE X e t' := ⟨fun pins s σ H Q I q => h.run pins s σ H Q I (i _ _ _ q)⟩
theorem PT.weak {e : Expr} {t t' : TT} (h : PT X e t) (i : ∀ s H Q, t' s H Q → t s H Q) : PT X e t' := ⟨fun pins s σ H Q I q => h.run pins s σ H Q I (i _ _ _ q)⟩
theorem PW.weak {e : Expr} {t t' : TT} (h : PW X e t) (i : ∀ s H Q, t' s H Q → t s H Q) : PW X e t' := ⟨fun w pins s σ H Q I q => h.run w pins s σ H Q I (i _ _ _ q)⟩
theorem PA.weak {e : List Expr} {t t' : TA} (h : PA X e t) (i : ∀ s H Q, t' s H Q → t s H Q) : PA X e t' := ⟨fun p pins s σ H Q I q => h.run p pins s σ H Q I (i _ _ _ q)⟩
theorem PS.weak {e : Stmt} {t t' : TS} (h : PS X e t) (i : ∀ D s H, t' D s H → t D s H) : PS X e t' := ⟨fun pins s σ H D I q => h.run pins s σ H D I (i _ _ _ q)⟩
theorem PSs.weak {e : List Stmt} {t t' : TS} (h : PSs X e t) (i : ∀ D s H, t' D s H → t D s H) : PSs X e t' := ⟨fun pins s σ H D I q => h.run pins s σ H D I (i _ _ _ q)⟩

/-! ### one, two operands -/
/-- after a first operand -/
theorem tE_one {f : Sm EV} {β : Type} {g : EV → Mem → Res β} {s : L2.St} {G : Gh} {M : Mem} {H : Hp} {k : Gh → Mem → Hp → β → Prop} {Q : V → Hp → Prop} (R : StRep X.K E G M s H) (h : OutP X E W s G M H ((f M).bnd g) k)
    (i : ∀ G1 M1 H1 a u, Evo s G M H G1 M1 H1 → StRep X.K E G1 M1 s H1 → RepE X.K E H G1 M1 s H1 a u → OutP X E W s G1 M1 H1 (g a M1) k → Q u H1) : tE X E W f s H Q :=
  ⟨G, M, R, h.bnd.imp fun G1 M1 H1 a V1 R1 q u ru => i G1 M1 H1 a u V1 R1 ru q⟩
theorem tP_one {f : Sm PV} {β : Type} {g : PV → Mem → Res β} {s : L2.St} {G : Gh} {M : Mem} {H : Hp} {k : Gh → Mem → Hp → β → Prop} {Q : V → Hp → Prop} (R : StRep X.K E G M s H) (h : OutP X E W s G M H ((f M).bnd g) k)
    (i : ∀ G1 M1 H1 a u, Evo s G M H G1 M1 H1 → StRep X.K E G1 M1 s H1 → RepV X.K G1 H1 a u → OutP X E W s G1 M1 H1 (g a M1) k → Q u H1) : tP X E W f s H Q :=
  ⟨G, M, R, h.bnd.imp fun G1 M1 H1 a V1 R1 q u ru => i G1 M1 H1 a u V1 R1 ru q⟩
theorem tL_one {f : Sm (List PV)} {β : Type} {g : List PV → Mem → Res β} {s : L2.St} {G : Gh} {M : Mem} {H : Hp} {k : Gh → Mem → Hp → β → Prop} {Q : List V → Hp → Prop} (R : StRep X.K E G M s H) (h : OutP X E W s G M H ((f M).bnd g) k)
    (i : ∀ G1 M1 H1 a u, Evo s G M H G1 M1 H1 → StRep X.K E G1 M1 s H1 → RepVs X.K G1 H1 a u → OutP X E W s G1 M1 H1 (g a M1) k → Q u H1) : tL X E W f s H Q :=
  ⟨G, M, R, h.bnd.imp fun G1 M1 H1 a V1 R1 q u ru => i G1 M1 H1 a u V1 R1 ru q⟩
theorem tB_one {f : Sm Bool} {β : Type} {g : Bool → Mem → Res β} {s : L2.St} {G : Gh} {M : Mem} {H : Hp} {k : Gh → Mem → Hp → β → Prop} {Q : Bool → Hp → Prop} (R : StRep X.K E G M s H) (h : OutP X E W s G M H ((f M).bnd g) k)
    (i : ∀ G1 M1 H1 a, Evo s G M H G1 M1 H1 → StRep X.K E G1 M1 s H1 → OutP X E W s G1 M1 H1 (g a M1) k → Q a H1) : tB' X E W f s H Q :=
  ⟨G, M, R, h.bnd.imp fun G1 M1 H1 a V1 R1 q => i G1 M1 H1 a V1 R1 q⟩
/-- an end at once -/
theorem OutP.now {α : Type} {s : L2.St} {G : Gh} {M : Mem} {H : Hp} {a : α} {k : Gh → Mem → Hp → α → Prop} (h : OutP X E W s G M H (.ok a M) k) (R : StRep X.K E G M s H) : k G M H a := h G H (Evo.refl _ _ _ _) R

/-! ### what things hold -/
@[simp] def cellAt (M : Mem) (r : Nat) : Option PO := M.h[r]?
@[simp] def slotAt (M : Mem) (i : Nat) : Option LV := match M.r[i]? with
  | some (some x) => some x
  | _ => none
/-- the list, where it is one -/
@[simp] def asLst (M : Mem) : EV → Option (List PV)
  | .v (.lst xs) => some xs
  | .v (.rol xs) => some xs
  | .v (.ref r) => match cellAt M r with
    | some (.lst xs) => some xs
    | _ => none
  | .fr (.lst xs) => some xs
  | .sl i => match slotAt M i with
    | some (.own (.lst xs)) => some xs
    | _ => none
  | _ => none
@[simp] def asDct (M : Mem) : EV → Option (List Key × List PV)
  | .v (.dct ks xs) => some (ks, xs)
  | .v (.ref r) => match cellAt M r with
    | some (.dct ks xs) => some (ks, xs)
    | _ => none
  | .fr (.dct ks xs) => some (ks, xs)
  | .sl i => match slotAt M i with
    | some (.own (.dct ks xs)) => some (ks, xs)
    | _ => none
  | _ => none
section
variable {K : PySem.W.Frag} {G : Gh} {M : Mem} {s : L2.St} {H H0 : Hp}
theorem slotAt_some {i : Nat} {x : LV} (h : slotAt M i = some x) : M.r[i]? = some (some x) := by
  unfold slotAt at h
  split at h
  · rename_i e; cases h; exact e
  · cases h
theorem RepO.lst_iff {xs : List PV} {o : HO} : RepO K G H (.lst xs) o ↔ ∃ us, o = .lst us ∧ us.length ≤ sizeLine ∧ RepVs K G H xs us := Iff.rfl
theorem StRep.cell (R : StRep K E G M s H) {r : Nat} {o : PO} {a : Addr} (h : cellAt M r = some o) (ha : G.al[r]? = some a) : ∃ u, H a = some u ∧ RepO K G H o u := (R.hp.obj r a o ha h).2
/-- a list that may be read -/
theorem lst_of (R : StRep K E G M s H) {e : EV} {u : V} {xs : List PV} (r : RepE K E H0 G M s H e u) (h : asLst M e = some xs) :
    ∃ a us, u = .ref a ∧ SqL K H a us ∧ RepVs K G H xs us ∧ us.length ≤ sizeLine := by
  cases e with
  | v p =>
    cases p with
    | lst ys =>
      cases h
      have r : RepV K G H (.lst xs) u := r
      simp only [RepV] at r
      obtain ⟨a, us, e, ⟨f0, f1, f2⟩, q⟩ := r
      exact ⟨a, us, e, .inl f2, q, f0⟩
    | rol ys =>
      cases h
      have r : RepV K G H (.rol xs) u := r
      simp only [RepV] at r
      obtain ⟨a, us, e, f, q⟩ := r
      exact ⟨a, us, e, f.sq, q, f.1⟩
    | ref c =>
      have r : RepV K G H (.ref c) u := r
      simp only [RepV] at r
      obtain ⟨a, e, q⟩ := r
      simp only [asLst] at h
      split at h
      · rename_i ec
        cases h
        obtain ⟨w, h1, us, rfl, z, rr⟩ := R.cell ec q
        exact ⟨a, us, e, SqL.of h1, rr, z⟩
      · cases h
    | non => cases h
    | bl b => cases h
    | int b => cases h
    | str b => cases h
    | tup b => cases h
    | dct b c => cases h
    | con b => cases h
    | exc b => cases h
    | fn b => cases h
  | fr o =>
    cases o with
    | lst ys =>
      cases h
      obtain ⟨a, w, e, h1, ⟨us, rfl, z, rr⟩, _⟩ := r
      exact ⟨a, us, e, SqL.of h1, rr, z⟩
    | dct b c => cases h
    | ins b c d => cases h
  | sl i =>
    simp only [asLst] at h
    split at h
    · rename_i ec
      cases h
      obtain ⟨a, w, e, h1, ⟨us, rfl, z, rr⟩, _⟩ := R.own i _ (slotAt_some ec)
      have r : s[i]? = some (some u) := r
      rw [e] at r
      cases r
      exact ⟨a, us, rfl, SqL.of h1, rr, z⟩
    · cases h
@[simp] def asLstR (M : Mem) : EV → Option (List PV)
  | .v (.rol _) => none
  | e => asLst M e
theorem asLstR_as {M : Mem} {e : EV} {xs : List PV} (h : asLstR M e = some xs) : asLst M e = some xs := by
  unfold asLstR at h
  split at h
  · cases h
  · exact h
theorem lstR_of (R : StRep K E G M s H) {e : EV} {u : V} {xs : List PV} (r : RepE K E H0 G M s H e u) (h : asLstR M e = some xs) :
    ∃ a us, u = .ref a ∧ Rd H a (.lst us) ∧ RepVs K G H xs us ∧ us.length ≤ sizeLine := by
  cases e with
  | v p =>
    cases p with
    | lst ys =>
      cases h
      have r : RepV K G H (.lst xs) u := r
      simp only [RepV] at r
      obtain ⟨a, us, e, ⟨f0, f1, f2⟩, q⟩ := r
      exact ⟨a, us, e, f2, q, f0⟩
    | ref c =>
      have r : RepV K G H (.ref c) u := r
      simp only [RepV] at r
      obtain ⟨a, e, q⟩ := r
      simp only [asLstR, asLst] at h
      split at h
      · rename_i ec
        cases h
        obtain ⟨w, h1, us, rfl, z, rr⟩ := R.cell ec q
        exact ⟨a, us, e, .inl h1, rr, z⟩
      · cases h
    | non => cases h
    | bl b => cases h
    | int b => cases h
    | str b => cases h
    | tup b => cases h
    | dct b c => cases h
    | con b => cases h
    | exc b => cases h
    | fn b => cases h
    | rol b => cases h
  | fr o =>
    cases o with
    | lst ys =>
      cases h
      obtain ⟨a, w, e, h1, ⟨us, rfl, z, rr⟩, _⟩ := r
      exact ⟨a, us, e, .inl h1, rr, z⟩
    | dct b c => cases h
    | ins b c d => cases h
  | sl i =>
    simp only [asLstR, asLst] at h
    split at h
    · rename_i ec
      cases h
      obtain ⟨a, w, e, h1, ⟨us, rfl, z, rr⟩, _⟩ := R.own i _ (slotAt_some ec)
      have r : s[i]? = some (some u) := r
      rw [e] at r
      cases r
      exact ⟨a, us, rfl, .inl h1, rr, z⟩
    · cases h
theorem tup_of {p : List PV} {u : V} (r : RepV K G H (.tup p) u) : ∃ a us, u = .ref a ∧ SqT K H a us ∧ RepVs K G H p us ∧ us.length ≤ sizeLine := by
  simp only [RepV] at r
  obtain ⟨a, us, e, f, q⟩ := r
  exact ⟨a, us, e, f.sq, q, f.1⟩
theorem dct_of (R : StRep K E G M s H) {e : EV} {u : V} {ks : List Key} {xs : List PV} (r : RepE K E H0 G M s H e u) (h : asDct M e = some (ks, xs)) :
    ∃ a kvs, u = .ref a ∧ Rd H a (.dK kvs) ∧ kvs.map (·.1) = ks ∧ RepVs K G H xs (kvs.map (·.2)) ∧ kvs.length ≤ sizeLine := by
  cases e with
  | v p =>
    cases p with
    | dct ys zs =>
      cases h
      have r : RepV K G H (.dct ks xs) u := r
      simp only [RepV] at r
      obtain ⟨a, us, e, ⟨_, f⟩, z, q, rr⟩ := r
      exact ⟨a, us, e, f, q, rr, z⟩
    | ref c =>
      have r : RepV K G H (.ref c) u := r
      simp only [RepV] at r
      obtain ⟨a, e, q⟩ := r
      simp only [asDct] at h
      split at h
      · rename_i ec
        cases h
        obtain ⟨w, h1, us, rfl, z, k, rr⟩ := R.cell ec q
        exact ⟨a, us, e, .inl h1, k, rr, z⟩
      · cases h
    | non => cases h
    | bl b => cases h
    | int b => cases h
    | str b => cases h
    | tup b => cases h
    | lst c => cases h
    | con b => cases h
    | exc b => cases h
    | fn b => cases h
    | rol c => cases h
  | fr o =>
    cases o with
    | dct ys zs =>
      cases h
      obtain ⟨a, w, e, h1, ⟨us, rfl, z, k, rr⟩, _⟩ := r
      exact ⟨a, us, e, .inl h1, k, rr, z⟩
    | lst c => cases h
    | ins b c d => cases h
  | sl i =>
    simp only [asDct] at h
    split at h
    · rename_i ec
      cases h
      obtain ⟨a, w, e, h1, ⟨us, rfl, z, k, rr⟩, _⟩ := R.own i _ (slotAt_some ec)
      have r : s[i]? = some (some u) := r
      rw [e] at r
      cases r
      exact ⟨a, us, rfl, .inl h1, k, rr, z⟩
    · cases h
end

/-! ### a thing becomes a value -/
@[simp] def poV : PO → Option PV
  | .lst xs => some (.lst xs)
  | .dct ks xs => some (.dct ks xs)
  | .ins _ _ _ => none
@[simp] def toP1 (e : EV) (M : Mem) : Res PV := match e with
  | .v p => .ok p M
  | .fr o => match poV o with
    | some p => .ok p M
    | none => .bad
  | .sl i => match slotAt M i with
    | some (.own o) => match poV o with
      | some p => .ok p ⟨M.r.set i (some (.v p)), M.h⟩
      | none => .bad
    | _ => .bad
@[simp] def toP (f : Sm EV) : Sm PV := fun M => (f M).bnd toP1
theorem poV_rep {K : PySem.W.Frag} {G : Gh} {H : Hp} {o : PO} {p : PV} {w : HO} {a : Addr} (h : poV o = some p) (r : RepO K G H o w) (ha : H a = some w) : RepV K (G.fz a) H p (.ref a) := by
  have x := G.ext_fz H a
  cases o with
  | lst xs =>
    cases h
    obtain ⟨us, rfl, z, rr⟩ := r
    simp only [RepV]
    exact ⟨a, us, rfl, ⟨z, .inr rfl, .inl ha⟩, RepVs.mono x _ _ rr⟩
  | dct ks xs =>
    cases h
    obtain ⟨us, rfl, z, k, rr⟩ := r
    simp only [RepV]
    exact ⟨a, us, rfl, ⟨.inr rfl, .inl ha⟩, z, k, RepVs.mono x _ _ rr⟩
  | ins C ns xs => cases h
/-- the end of toP1, seen from the run's beginning -/
theorem OutP.toP1 {s : L2.St} {G G1 : Gh} {M M1 : Mem} {H H1 : Hp} {e : EV} {u : V} {k : Gh → Mem → Hp → PV → Prop} (V1 : Evo s G M H G1 M1 H1) (R1 : StRep X.K E G1 M1 s H1) (r : RepE X.K E H G1 M1 s H1 e u)
    (h : OutP X E W s G M H (HF.toP1 e M1) k) : ∃ G2 M2 p, Evo s G M H G2 M2 H1 ∧ StRep X.K E G2 M2 s H1 ∧ RepV X.K G2 H1 p u ∧ k G2 M2 H1 p := by
  cases e with
  | v p => exact ⟨G1, M1, p, V1, R1, r, h G1 H1 V1 R1⟩
  | fr o =>
    obtain ⟨a, w, rfl, h1, ro, n, nf, nl, no, z⟩ := r
    simp only [HF.toP1] at h
    split at h
    · rename_i p ep
      have R2 := R1.frozen h1 n nl no ro.nox
      have V2 := V1.frozen (p := a) (.inl z)
      exact ⟨G1.fz a, M1, p, V2, R2, poV_rep ep ro h1, h _ _ V2 R2⟩
    · exact False.elim h
  | sl i =>
    simp only [HF.toP1] at h
    split at h
    · rename_i o eo
      split at h
      · rename_i p ep
        have ei := slotAt_some eo
        obtain ⟨a, w, e, h1, ro, n, nf, nl⟩ := R1.own i o ei
        have r : s[i]? = some (some u) := r
        rw [e] at r
        cases r
        have ow : OwnAt M.r s a := V1.own a ⟨i, o, ei, e⟩
        have lt : i < M1.r.length := (List.getElem?_eq_some_iff.mp ei).1
        have rv := poV_rep ep ro h1
        -- the slot first forgets, then the address is frozen, then the slot has the value
        have Rf : StRep X.K E G1 ⟨M1.r.set i none, M1.h⟩ s H1 := R1.slots (by simp) fun j x ej => by
          by_cases zj : i = j
          · subst zj; rw [List.getElem?_set_self lt] at ej; cases ej
          · rw [List.getElem?_set_ne zj] at ej; exact .inl ej
        have nof : ¬ OwnAt (M1.r.set i none) s a := fun ⟨j, o2, e1, e2⟩ => by
          by_cases zj : i = j
          · subst zj; rw [List.getElem?_set_self lt] at e1; cases e1
          · rw [List.getElem?_set_ne zj] at e1
            exact zj (R1.sep i j o o2 a ei e1 e e2)
        have Rz := Rf.frozen h1 n nl nof ro.nox
        have R2 : StRep X.K E (G1.fz a) ⟨M1.r.set i (some (.v p)), M1.h⟩ s H1 := Rz.slots (r' := M1.r.set i (some (.v p))) (by simp) fun j x ej => by
          by_cases zj : i = j
          · subst zj; rw [List.getElem?_set_self lt] at ej; cases ej
            exact .inr ⟨p, .ref a, rfl, e, rv⟩
          · rw [List.getElem?_set_ne zj] at ej
            exact .inl (by show (M1.r.set i none)[j]? = _; rw [List.getElem?_set_ne zj]; exact ej)
        have V2 : Evo s G M H (G1.fz a) ⟨M1.r.set i (some (.v p)), M1.h⟩ H1 := by
          have V3 := V1.frozen (p := a) (.inr ow)
          refine ⟨V3.ext, V3.keep, fun b ⟨j, o2, e1, e2⟩ => V1.own b ?_, V3.dom⟩
          by_cases zj : i = j
          · subst zj; rw [List.getElem?_set_self lt] at e1; cases e1
          · rw [List.getElem?_set_ne zj] at e1; exact ⟨j, o2, e1, e2⟩
        exact ⟨_, _, p, V2, R2, rv, h _ _ V2 R2⟩
      · exact False.elim h
    · exact False.elim h
theorem FE.toP {e : Expr} {f : Sm EV} (h : FE X E W e f) : FP X E W e (HF.toP f) := by
  refine ⟨PE.weak h.pe ?_⟩
  rintro s H Q ⟨G, M, R, h⟩
  refine ⟨G, M, R, ?_⟩
  simp only [HF.toP] at h
  generalize f M = q at h
  cases q with
  | ok ev M1 =>
    intro G1 H1 V1 R1 u ru
    obtain ⟨G2, M2, p, _, _, rv, q⟩ := OutP.toP1 V1 R1 ru (k := fun G' _ H' p => ∀ u, RepV X.K G' H' p u → Q u H') h
    exact q u rv
  | exn c M1 => exact h
  | bad => exact h
end
end HF

end
section
set_option Elab.async false
set_option linter.all false
set_option maxRecDepth 20000
set_option autoImplicit false
/-! HF3: names, constants, operators, comparisons, and, or, not, displays, subscripts, slices. -/
namespace HF
open PySem PySem.Spec PyProof.Rows L2

/-- what is known of the place where code runs -/
structure Wd where
  P : Program
  w : World
  K : PySem.W.Frag
  mg : Str → Option Value
  base : Heap
  T : List NdefX.NTab := []
structure Amb (Z : Wd) (X : Cx) (W : WX) (N : List Str) (sc : Scope) (fs : Str → Bool) (k : Nat) : Prop where
  hN : X.N = N
  fn : X.fn = fs
  same : X.prog = Z.P ∧ X.w = Z.w ∧ X.K = Z.K ∧ X.mg = Z.mg ∧ X.base = Z.base
  hs : X.env.scope = sc
  nd : N.Nodup
  calm : X.calm = true
  room : Room k X.A
  tk : Takes X W
  po : PassesOwn (model X.prog X.w) X.A X.env X.xe
def visB (sc : Scope) (x : Str) : Bool := match sc.names.lookup x with
  | some .local => true
  | some .cell => true
  | some .free => true
  | _ => false
theorem vis_of {sc : Scope} {x : Str} (h : visB sc x = true) : Vis sc x := by
  unfold visB at h
  split at h
  · rename_i e; exact .inl e
  · rename_i e; exact .inr (.inl e)
  · rename_i e; exact .inr (.inr e)
  · cases h
section
variable {X : Cx} {E : Ent} {W : WX} {N : List Str} {sc : Scope} {fs : Str → Bool} {k : Nat} {Z : Wd}
theorem Amb.u64 (A : Amb Z X W N sc fs k) : X.A.units + 64 < cLine := A.room.units
theorem Amb.u65 (A : Amb Z X W N sc fs k) : X.A.units + 65 < cLine := by have := A.room.un; omega
theorem Amb.u1 (A : Amb Z X W N sc fs k) : X.A.units + 1 < cLine := by have := A.room.un; omega
theorem Amb.gl (A : Amb Z X W N sc fs k) {x : Str} (h : sc.names.lookup x = some .globalImplicit) : Gl X x := by
  show X.env.scope.names.lookup x = _
  rw [A.hs]; exact h

/-! ### names and constants -/
@[simp] def eVar (i : Nat) : Sm EV := fun M => match slotAt M i with
  | some (.v p) => .ok (.v p) M
  | some (.own _) => .ok (.sl i) M
  | none => .bad
theorem fe_var (A : Amb Z X W N sc fs k) {i : Nat} {x : Str} {pos : Pos} (hN : N[i]? = some x) (hv : visB sc x = true) (hd : (x == ("__debug__" : Str)) = false := by decide) (hcd : (x == ("__classdict__" : Str)) = false := by decide) : FE X E W (.Name x pos) (eVar i) := by
  refine ⟨PE.weak (pe_var (i := i) (by rw [A.hN]; exact hN) (by rw [A.hs]; exact vis_of hv) hd hcd) ?_⟩
  rintro s H Q ⟨G, M, R, h⟩
  simp only [eVar] at h
  split at h
  · rename_i p e
    obtain ⟨u, e1, r⟩ := R.slot i p (slotAt_some e)
    exact ⟨u, e1, h.now R u r⟩
  · rename_i o e
    obtain ⟨a, u, e1, h1, _⟩ := R.own i o (slotAt_some e)
    exact ⟨.ref a, e1, h.now R (.ref a) e1⟩
  · exact False.elim h
@[simp] def eC (p : PV) : Sm EV := fun M => .ok (.v p) M
theorem fe_const {e : Expr} {v : V} {p : PV} (h : PE X e (tC v)) (r : ∀ G H, RepV X.K G H p v) : FE X E W e (eC p) := by
  refine ⟨PE.weak h ?_⟩
  rintro s H Q ⟨G, M, R, h⟩
  exact h.now R v (r G H)
theorem fe_int {i : Int} {j pos} : FE X E W (.Constant (.int i) j pos) (eC (.int i)) := fe_const pe_int fun _ _ => by simp only [RepV]
theorem fe_bl {b : Bool} {j pos} : FE X E W (.Constant (.bool b) j pos) (eC (.bl b)) := fe_const pe_bl fun _ _ => by simp only [RepV]
theorem fe_non {j pos} : FE X E W (.Constant .none j pos) (eC .non) := fe_const pe_non fun _ _ => by simp only [RepV]
theorem fe_str {x : Str} {j pos} : FE X E W (.Constant (.str x) j pos) (eC (.str x)) := fe_const pe_str fun _ _ => by simp only [RepV]
/-- a text of the module -/
theorem fe_gstr (A : Amb Z X W N sc fs k) {x y : Str} {t : Tok} {pos : Pos} (hm : X.mg x = some (.str y t)) (hg : sc.names.lookup x = some .globalImplicit := by rfl) (hd : (x == ("__debug__" : Str)) = false := by decide) : FE X E W (.Name x pos) (eC (.str y)) :=
  fe_const (v := .str y) (pe_glob (A.gl hg) hm ⟨t, rfl⟩ hd) fun _ _ => by simp only [RepV]
theorem fe_gint (A : Amb Z X W N sc fs k) {x : Str} {y : Int} {t : Tok} {pos : Pos} (hm : X.mg x = some (.int y t)) (hg : sc.names.lookup x = some .globalImplicit := by rfl) (hd : (x == ("__debug__" : Str)) = false := by decide) : FE X E W (.Name x pos) (eC (.int y)) :=
  fe_const (v := .int y) (pe_glob (A.gl hg) hm ⟨t, rfl⟩ hd) fun _ _ => by simp only [RepV]

/-! ### two operands -/
abbrev Op2 := EV → EV → Mem → Option EV
@[simp] def optR {α : Type} (x : Option α) (M : Mem) : Res α := match x with
  | some a => .ok a M
  | none => .bad
@[simp] def e2 (op : Op2) (f g : Sm EV) : Sm EV := fun M => (f M).bnd fun x M1 => (g M1).bnd fun y M2 => optR (op x y M2) M2
def Op2Ok (X : Cx) (r : R2) (op : Op2) : Prop := ∀ (E : Ent) (s : L2.St) (G : Gh) (M : Mem) (H H0 : Hp) (x y : EV) (u v : V) (ev : EV) (Q : VK), StRep X.K E G M s H → (∀ a, H a = none → H0 a = none) →
  RepE X.K E H0 G M s H x u → RepE X.K E H0 G M s H y v → op x y M = some ev → (∀ G' H' w, Evo s G M H G' M H' → StRep X.K E G' M s H' → RepE X.K E H0 G' M s H' ev w → Q w H') → r u v H Q
theorem tE_two {f g : Sm EV} {r : R2} {op : Op2} (ok : Op2Ok X r op) {s : L2.St} {H : Hp} {Q : VK} (h : tE X E W (e2 op f g) s H Q) : tOp r (tE X E W f) (tE X E W g) s H Q := by
  obtain ⟨G, M, R, h⟩ := h
  refine tE_one R h fun G1 M1 H1 x u V1 R1 rx h1 => ?_
  refine tE_one R1 h1 fun G2 M2 H2 y v V2 R2 ry h2 => ?_
  have V := V1.trans V2
  simp only [optR] at h2
  split at h2
  · rename_i ev eo
    refine ok E s G2 M2 H2 H x y u v ev Q R2 V.dom (rx.evo V2) (ry.old V1.dom) eo fun G' H' w V3 R3 rw' => ?_
    exact h2 G' H' V3 R3 w (rw'.old fun _ z => z)
  · exact False.elim h2
section
variable {a b : Expr} {f g : Sm EV} {pos : Pos}
theorem fe_bin {op : Operator} {r : R2} {o : Op2} (ho : OpR X (binaryOp op) r) (k : Op2Ok X r o) (ha : FE X E W a f) (hb : FE X E W b g) : FE X E W (.BinOp a op b pos) (e2 o f g) :=
  ⟨PE.weak (pe_op ho ha.pe hb.pe) fun _ _ _ h => tE_two k h⟩
end
theorem Op2Ok.or {r r' : R2} {o o' : Op2} (h : Op2Ok X r o) (h' : Op2Ok X r' o') : Op2Ok X (fun x y H Q => r x y H Q ∨ r' x y H Q) (fun x y M => (o x y M).or (o' x y M)) := by
  intro E s G M H H0 x y u v ev Q R d rx ry e q
  simp only at e
  cases e1 : o x y M with
  | some w =>
    rw [e1] at e
    cases e
    exact .inl (h E s G M H H0 x y u v _ Q R d rx ry e1 q)
  | none =>
    rw [e1] at e
    exact .inr (h' E s G M H H0 x y u v ev Q R d rx ry e q)
theorem repE_int {E : Ent} {H0 : Hp} {G : Gh} {M : Mem} {s : L2.St} {H : Hp} {i : Int} {u : V} (h : RepE X.K E H0 G M s H (.v (.int i)) u) : u = .int i := by
  have h : RepV X.K G H (.int i) u := h
  simpa only [RepV] using h
theorem repE_str {E : Ent} {H0 : Hp} {G : Gh} {M : Mem} {s : L2.St} {H : Hp} {i : Str} {u : V} (h : RepE X.K E H0 G M s H (.v (.str i)) u) : u = .str i := by
  have h : RepV X.K G H (.str i) u := h
  simpa only [RepV] using h
theorem repE_bl {E : Ent} {H0 : Hp} {G : Gh} {M : Mem} {s : L2.St} {H : Hp} {i : Bool} {u : V} (h : RepE X.K E H0 G M s H (.v (.bl i)) u) : u = .bl i := by
  have h : RepV X.K G H (.bl i) u := h
  simpa only [RepV] using h
theorem repE_tup {E : Ent} {H0 : Hp} {G : Gh} {M : Mem} {s : L2.St} {H : Hp} {p : List PV} {u : V} (h : RepE X.K E H0 G M s H (.v (.tup p)) u) : ∃ a us, u = .ref a ∧ SqT X.K H a us ∧ RepVs X.K G H p us ∧ us.length ≤ sizeLine := tup_of h
/-- two ints to an int -/
@[simp] def opI2 (c : Int → Int → Bool) (f : Int → Int → Int) : Op2 := fun x y _ => match x, y with
  | .v (.int i), .v (.int j) => if c i j then some (.v (.int (f i j))) else none
  | _, _ => none
theorem opI2_ok {C : Int → Int → Prop} {c : Int → Int → Bool} {f : Int → Int → Int} (hc : ∀ i j, c i j = true → C i j) : Op2Ok X (rI C fun i j => .int (f i j)) (opI2 c f) := by
  intro E s G M H H0 x y u v ev Q R d rx ry e q
  simp only [opI2] at e
  split at e
  · split at e
    · rename_i i j z
      cases e
      exact ⟨i, j, repE_int rx, repE_int ry, hc i j z, q G H _ (Evo.refl _ _ _ _) R (show RepV X.K G H (.int (f i j)) _ by simp only [RepV])⟩
    · cases e
  · cases e
@[simp] def opI2' (f : Int → Int → Int) : Op2 := fun x y _ => match x, y with
  | .v (.int i), .v (.int j) => some (.v (.int (f i j)))
  | _, _ => none
theorem opI2'_ok {f : Int → Int → Int} : Op2Ok X (rI0 fun i j => .int (f i j)) (opI2' f) := by
  intro E s G M H H0 x y u v ev Q R d rx ry e q
  simp only [opI2'] at e
  split at e
  · rename_i i j
    cases e
    exact ⟨i, j, repE_int rx, repE_int ry, q G H _ (Evo.refl _ _ _ _) R (show RepV X.K G H (.int (f i j)) _ by simp only [RepV])⟩
  · cases e
@[simp] def opStrCat : Op2 := fun x y _ => match x, y with
  | .v (.str i), .v (.str j) => if i.length + j.length ≤ sizeLine then some (.v (.str (i ++ j))) else none
  | _, _ => none
@[simp] def opTupCat : Op2 := fun x y _ => match x, y with
  | .v (.tup i), .v (.tup j) => if i.length + j.length ≤ sizeLine then some (.v (.tup (i ++ j))) else none
  | _, _ => none
@[simp] def opLstCat : Op2 := fun x y M => match asLstR M x, asLstR M y with
  | some i, some j => if i.length + j.length ≤ sizeLine then some (.fr (.lst (i ++ j))) else none
  | _, _ => none
theorem opStrCat_ok : Op2Ok X (fun x y H Q => ∃ i j, x = .str i ∧ y = .str j ∧ i.length + j.length ≤ sizeLine ∧ Q (.str (i ++ j)) H) opStrCat := by
  intro E s G M H H0 x y u v ev Q R d rx ry e q
  simp only [opStrCat] at e
  split at e
  · rename_i i j
    split at e
    · rename_i z
      cases e
      exact ⟨i, j, repE_str rx, repE_str ry, z, q G H _ (Evo.refl _ _ _ _) R (show RepV X.K G H (.str (i ++ j)) _ by simp only [RepV])⟩
    · cases e
  · cases e
/-- a new tuple -/
theorem rep_newtup {E : Ent} {s : L2.St} {G : Gh} {M : Mem} {H : Hp} {ps : List PV} {us : List V} (R : StRep X.K E G M s H) (r : RepVs X.K G H ps us) (z : us.length ≤ sizeLine) {p : Addr} (hp : H p = none) :
    Evo s G M H (G.fz p) M (upd H p (.tup us)) ∧ StRep X.K E (G.fz p) M s (upd H p (.tup us)) ∧ RepV X.K (G.fz p) (upd H p (.tup us)) (.tup ps) (.ref p) := by
  obtain ⟨R1, V1, eh, nf, na, no⟩ := R.laid (.tup us) hp
  refine ⟨V1.frozen (.inl hp), R1.frozen upd_same eh na no, ?_⟩
  simp only [RepV]
  exact ⟨p, us, rfl, ⟨z, .inl ⟨.inr rfl, .inl upd_same⟩⟩, RepVs.mono (V1.ext.trans (G.ext_fz _ p)) _ _ r⟩
/-- a new list -/
theorem rep_newlst {E : Ent} {s : L2.St} {G : Gh} {M : Mem} {H H0 : Hp} {ps : List PV} {us : List V} (R : StRep X.K E G M s H) (d : ∀ a, H a = none → H0 a = none) (r : RepVs X.K G H ps us) (z : us.length ≤ sizeLine) {p : Addr} (hp : H p = none) :
    Evo s G M H G M (upd H p (.lst us)) ∧ StRep X.K E G M s (upd H p (.lst us)) ∧ RepE X.K E H0 G M s (upd H p (.lst us)) (.fr (.lst ps)) (.ref p) := by
  obtain ⟨R1, V1, eh, nf, na, no⟩ := R.laid (.lst us) hp
  exact ⟨V1, R1, p, _, rfl, upd_same, ⟨us, rfl, z, RepVs.mono V1.ext _ _ r⟩, eh, nf, na, no, d p hp⟩
end
end HF

end
section
set_option Elab.async false
set_option linter.all false
set_option maxRecDepth 20000
set_option autoImplicit false
/-! HF4: tuples, lists, comparisons, tests, displays, subscripts, slices. -/
namespace HF
open PySem PySem.Spec PyProof.Rows L2
section
variable {X : Cx} {E : Ent} {W : WX} {N : List Str} {sc : Scope} {fs : Str → Bool} {k : Nat} {Z : Wd}
theorem opTupCat_ok : Op2Ok X (rCatA X.K) opTupCat := by
  intro E s G M H H0 x y u v ev Q R d rx ry e q
  simp only [opTupCat] at e
  split at e
  · rename_i i j
    split at e
    · rename_i z
      cases e
      obtain ⟨a, us, rfl, ha, ra, za⟩ := repE_tup rx
      obtain ⟨b, vs, rfl, hb, rb, zb⟩ := repE_tup ry
      have l1 := ra.length
      have l2 := rb.length
      refine ⟨a, b, us, vs, rfl, rfl, ha, hb, by omega, fun e => ?_, fun e e' => ?_, fun e e' p hp => ?_⟩
      · subst e
        have ei : i = [] := List.length_eq_zero_iff.mp (by rw [l1]; rfl)
        subst ei
        exact q G H _ (Evo.refl _ _ _ _) R (by simpa using ry)
      · subst e'
        have ei : j = [] := List.length_eq_zero_iff.mp (by rw [l2]; rfl)
        subst ei
        exact q G H _ (Evo.refl _ _ _ _) R (by simpa using rx)
      · obtain ⟨V1, R1, r1⟩ := rep_newtup R (ra.append rb) (by rw [List.length_append]; omega) hp
        exact q _ _ _ V1 R1 r1
    · cases e
  · cases e
/-- a list and a list, known ones too -/
def rCatR : R2 := fun x y H Q => ∃ l b xs zs, x = .ref l ∧ y = .ref b ∧ Rd H l (.lst xs) ∧ Rd H b (.lst zs) ∧ xs.length + zs.length ≤ sizeLine ∧ ∀ p, H p = none → Q (.ref p) (upd H p (.lst (xs ++ zs)))
theorem op_catR : OpR X (binaryOp .Add) rCatR := by
  intro pins s σ H x y v u Q I rx ry h
  obtain ⟨l, b, xs, zs, rfl, rfl, hH, hB, hz, q⟩ := h
  cases rx
  cases ry
  obtain ⟨z, its, n, r, e⟩ : ObjOk X.prog X.w H s.heap l (.lst xs) := hH.ok I.hok
  obtain ⟨z2, its2, n2, r2, e2⟩ : ObjOk X.prog X.w H s.heap b (.lst zs) := hB.ok I.hok
  have hl := r.length
  have hl2 := r2.length
  refine PySem.P.add_list e e2 ?_ (by rw [List.size_toArray, List.size_toArray]; omega)
  have ea : its.toArray ++ its2.toArray = (its ++ its2).toArray := by simp
  rw [ea]
  exact ⟨.ref _, _, I.lnew (t' := s.toks) (r.append r2) (by rw [List.length_append]; omega), rfl, q _ I.fresh⟩
theorem opLstCat_ok : Op2Ok X rCatR opLstCat := by
  intro E s G M H H0 x y u v ev Q R d rx ry e q
  simp only [opLstCat] at e
  split at e
  · rename_i i j e1 e2
    split at e
    · rename_i z
      cases e
      obtain ⟨a, us, rfl, ha, ra, za⟩ := lstR_of R rx e1
      obtain ⟨b, vs, rfl, hb, rb, zb⟩ := lstR_of R ry e2
      have l1 := ra.length
      have l2 := rb.length
      refine ⟨a, b, us, vs, rfl, rfl, ha, hb, by omega, fun p hp => ?_⟩
      obtain ⟨V1, R1, r1⟩ := rep_newlst (H0 := H0) R d (ra.append rb) (by rw [List.length_append]; omega) hp
      exact q _ _ _ V1 R1 r1
    · cases e
  · cases e
/-- + -/
@[simp] def opAdd : Op2 := fun x y M => (opI2' (fun i j => i + j) x y M).or ((opStrCat x y M).or ((opTupCat x y M).or (opLstCat x y M)))
theorem opAdd_ok : Op2Ok X (fun x y H Q => rI0 (fun i j => .int (i + j)) x y H Q ∨ (∃ i j, x = .str i ∧ y = .str j ∧ i.length + j.length ≤ sizeLine ∧ Q (.str (i ++ j)) H) ∨ rCatA X.K x y H Q ∨ rCatR x y H Q) opAdd :=
  opI2'_ok.or (opStrCat_ok.or (opTupCat_ok.or opLstCat_ok))
theorem op_addA : OpR X (binaryOp .Add) (fun x y H Q => rI0 (fun i j => .int (i + j)) x y H Q ∨ (∃ i j, x = .str i ∧ y = .str j ∧ i.length + j.length ≤ sizeLine ∧ Q (.str (i ++ j)) H) ∨ rCatA X.K x y H Q ∨ rCatR x y H Q) :=
  op_add.or (op_add_str.or (op_catA.or op_catR))
/-- a list so many times -/
@[simp] def opRep : Op2 := fun x y M => match asLst M x, y with
  | some xs, .v (.int n) => if decide (n.natAbs < 2 ^ 62) && decide (xs.length * n.toNat ≤ sizeLine) then some (.fr (.lst (List.replicate n.toNat xs).flatten)) else none
  | _, _ => none
@[simp] def mulOk (i j : Int) : Bool := decide (i.natAbs < 2 ^ 64) || decide (j.natAbs < 2 ^ 64)
theorem mulOk_of {i j : Int} (h : mulOk i j = true) : CMul i j := by
  simp only [mulOk, Bool.or_eq_true, decide_eq_true_eq] at h
  rcases h with h | h
  · exact .inl (by omega)
  · exact .inr (by omega)
def opSub : Op2 := opI2' fun i j => i - j
@[simp] theorem opSub_at (x y : EV) (M : Mem) : opSub x y M = (opI2' fun i j => i - j) x y M := rfl
def opMul : Op2 := opI2 mulOk fun i j => i * j
@[simp] theorem opMul_at (x y : EV) (M : Mem) : opMul x y M = (opI2 mulOk fun i j => i * j) x y M := rfl
@[simp] def divOk (_ j : Int) : Bool := decide (0 < j) && decide (j < 1073741824)
def opDiv : Op2 := opI2 divOk fun i j => i / j
@[simp] theorem opDiv_at (x y : EV) (M : Mem) : opDiv x y M = (opI2 divOk fun i j => i / j) x y M := rfl
@[simp] def modOk (_ j : Int) : Bool := decide (0 < j)
def opMod : Op2 := opI2 modOk fun i j => i % j
@[simp] theorem opMod_at (x y : EV) (M : Mem) : opMod x y M = (opI2 modOk fun i j => i % j) x y M := rfl
@[simp] def powOk (i j : Int) : Bool := decide (0 ≤ j) && decide (j ≤ 1000000) && decide (i.natAbs < 2 ^ 64)
def opPow : Op2 := opI2 powOk fun i j => i ^ j.toNat
@[simp] theorem opPow_at (x y : EV) (M : Mem) : opPow x y M = (opI2 powOk fun i j => i ^ j.toNat) x y M := rfl
section
variable {a b : Expr} {f g : Sm EV} {pos : Pos}
theorem fe_add (ha : FE X E W a f) (hb : FE X E W b g) : FE X E W (.BinOp a .Add b pos) (e2 opAdd f g) := fe_bin op_addA opAdd_ok ha hb
theorem fe_sub (ha : FE X E W a f) (hb : FE X E W b g) : FE X E W (.BinOp a .Sub b pos) (e2 opSub f g) := fe_bin op_sub opI2'_ok ha hb
theorem fe_mul (ha : FE X E W a f) (hb : FE X E W b g) : FE X E W (.BinOp a .Mult b pos) (e2 opMul f g) := fe_bin op_mul (opI2_ok fun _ _ h => mulOk_of h) ha hb
theorem fe_div (ha : FE X E W a f) (hb : FE X E W b g) : FE X E W (.BinOp a .FloorDiv b pos) (e2 opDiv f g) := fe_bin op_fdiv (opI2_ok fun _ _ h => by simpa [divOk, CDiv] using h) ha hb
theorem fe_mod (ha : FE X E W a f) (hb : FE X E W b g) : FE X E W (.BinOp a .Mod b pos) (e2 opMod f g) := fe_bin op_mod (opI2_ok fun _ _ h => by simpa [modOk] using h) ha hb
theorem fe_pow (ha : FE X E W a f) (hb : FE X E W b g) : FE X E W (.BinOp a .Pow b pos) (e2 opPow f g) := fe_bin op_pow (opI2_ok fun _ _ h => by simpa [powOk, CPow, and_assoc] using h) ha hb
end

/-! ### comparisons -/
abbrev Cp2 := EV → EV → Mem → Option Bool
def Cp2Ok (X : Cx) (r : R2) (op : Cp2) : Prop := ∀ (E : Ent) (s : L2.St) (G : Gh) (M : Mem) (H H0 : Hp) (x y : EV) (u v : V) (b : Bool) (Q : VK), StRep X.K E G M s H →
  RepE X.K E H0 G M s H x u → RepE X.K E H0 G M s H y v → op x y M = some b → Q (.bl b) H → r u v H Q
@[simp] def b2 (op : Cp2) (f g : Sm EV) : Sm Bool := fun M => (f M).bnd fun x M1 => (g M1).bnd fun y M2 => optR (op x y M2) M2
@[simp] def eB (f : Sm Bool) : Sm EV := fun M => (f M).bnd fun b M1 => .ok (.v (.bl b)) M1
theorem Cp2Ok.or {r r' : R2} {o o' : Cp2} (h : Cp2Ok X r o) (h' : Cp2Ok X r' o') : Cp2Ok X (fun x y H Q => r x y H Q ∨ r' x y H Q) (fun x y M => (o x y M).or (o' x y M)) := by
  intro E s G M H H0 x y u v b Q R rx ry e q
  simp only at e
  cases e1 : o x y M with
  | some w =>
    rw [e1] at e
    cases e
    exact .inl (h E s G M H H0 x y u v _ Q R rx ry e1 q)
  | none =>
    rw [e1] at e
    exact .inr (h' E s G M H H0 x y u v b Q R rx ry e q)
theorem repE_blI {E : Ent} {H0 : Hp} {G : Gh} {M : Mem} {s : L2.St} {H : Hp} {b : Bool} : RepE X.K E H0 G M s H (.v (.bl b)) (.bl b) := show RepV X.K G H (.bl b) _ by simp only [RepV]
theorem tB_two {f g : Sm EV} {r : R2} {op : Cp2} (ok : Cp2Ok X r op) {s : L2.St} {H : Hp} {Q : VK} (h : tB' X E W (b2 op f g) s H fun b H' => Q (.bl b) H') : tOp r (tE X E W f) (tE X E W g) s H Q := by
  obtain ⟨G, M, R, h⟩ := h
  refine tE_one R h fun G1 M1 H1 x u V1 R1 rx h1 => ?_
  refine tE_one R1 h1 fun G2 M2 H2 y v V2 R2 ry h2 => ?_
  have V := V1.trans V2
  simp only [optR] at h2
  split at h2
  · rename_i b eo
    exact ok E s G2 M2 H2 H x y u v b Q R2 (rx.evo V2) (ry.old V1.dom) eo (h2.now R2)
  · exact False.elim h2
theorem tE_eB {f : Sm Bool} {s : L2.St} {H : Hp} {Q : VK} (h : tE X E W (eB f) s H Q) : tB' X E W f s H fun b H' => Q (.bl b) H' := by
  obtain ⟨G, M, R, h⟩ := h
  refine tB_one R h fun G1 M1 H1 b V1 R1 h1 => ?_
  exact h1.now R1 _ repE_blI
section
variable {a b c : Expr} {f g l : Sm EV} {pos : Pos}
theorem fe_cmp {op : CmpOp} {r : R2} {o : Cp2} (ho : OpR X (compareOp op) r) (k : Cp2Ok X r o) (ha : FE X E W a f) (hb : FE X E W b g) (hm : behindInMarks op b = false) : FE X E W (.Compare a [op] [b] pos) (eB (b2 o f g)) :=
  ⟨PE.weak (pe_cmpR ho ha.pe hb.pe hm) fun _ _ _ h => tB_two k (tE_eB h)⟩
theorem ft_cmp {op : CmpOp} {r : R2} {o : Cp2} (ho : OpR X (compareOp op) r) (k : Cp2Ok X r o) (ha : FE X E W a f) (hb : FE X E W b g) (hm : behindInMarks op b = false) : FT X E W (.Compare a [op] [b] pos) (b2 o f g) :=
  ⟨PT.weak (pt_cmpR ho ha.pe hb.pe hm) fun s H Q h => tB_two (Q := fun x H' => ∃ k, x = .bl k ∧ Q k H') k (by
    obtain ⟨G, M, R, h⟩ := h
    exact ⟨G, M, R, h.imp fun _ _ _ b _ _ q => ⟨b, rfl, q⟩⟩)⟩
/-- a chain of two -/
@[simp] def b3 (o o' : Cp2) (f g l : Sm EV) : Sm Bool := fun M => (f M).bnd fun x M1 => (g M1).bnd fun y M2 => (optR (o x y M2) M2).bnd fun b M3 => if b = true then (l M3).bnd fun z M4 => optR (o' y z M4) M4 else .ok false M3
theorem tB_three {r r' : R2} {o o' : Cp2} (k : Cp2Ok X r o) (k' : Cp2Ok X r' o') {s : L2.St} {H : Hp} {Q : VK} (h : tB' X E W (b3 o o' f g l) s H fun b H' => Q (.bl b) H') : tChain r r' (tE X E W f) (tE X E W g) (tE X E W l) s H Q := by
  obtain ⟨G, M, R, h⟩ := h
  refine tE_one R h fun G1 M1 H1 x u V1 R1 rx h1 => ?_
  refine tE_one R1 h1 fun G2 M2 H2 y v V2 R2 ry h2 => ?_
  have V := V1.trans V2
  cases eo : o x y M2 with
  | none => simp only [eo, optR, Res.bnd] at h2; exact False.elim h2
  | some b =>
    simp only [eo, optR, Res.bnd] at h2
    refine k E s G2 M2 H2 H x y u v b _ R2 (rx.evo V2) (ry.old V1.dom) eo ⟨b, rfl, ?_⟩
    cases b with
    | false => exact iteF (h2.now R2)
    | true =>
      rw [if_pos rfl] at h2
      refine iteT (tE_one R2 h2 fun G3 M3 H3 z w V3 R3 rz h3 => ?_)
      cases eo' : o' y z M3 with
      | none => rw [eo'] at h3; exact False.elim h3
      | some b =>
        rw [eo'] at h3
        exact k' E s G3 M3 H3 H1 y z v w b Q R3 (ry.evo V3) (rz.old V2.dom) eo' (OutP.now h3 R3)
theorem fe_chain {op op' : CmpOp} {r r' : R2} {o o' : Cp2} (ho : OpR X (compareOp op) r) (ho' : OpR X (compareOp op') r') (k : Cp2Ok X r o) (k' : Cp2Ok X r' o') (ha : FE X E W a f) (hb : FE X E W b g) (hc : FE X E W c l)
    (hm : lastMarks [op, op'] [b, c] = false := by with_unfolding_all rfl) : FE X E W (.Compare a [op, op'] [b, c] pos) (eB (b3 o o' f g l)) :=
  ⟨PE.weak (pe_chain ho ho' ha.pe hb.pe hc.pe hm) fun _ _ _ h => tB_three k k' (tE_eB h)⟩
theorem ft_chain {op op' : CmpOp} {r r' : R2} {o o' : Cp2} (ho : OpR X (compareOp op) r) (ho' : OpR X (compareOp op') r') (k : Cp2Ok X r o) (k' : Cp2Ok X r' o') (ha : FE X E W a f) (hb : FE X E W b g) (hc : FE X E W c l)
    (hm : lastMarks [op, op'] [b, c] = false := by with_unfolding_all rfl) : FT X E W (.Compare a [op, op'] [b, c] pos) (b3 o o' f g l) :=
  ⟨PT.weak (pt_chain ho ho' ha.pe hb.pe hc.pe hm) fun s H Q h => tB_three (Q := fun x H' => ∃ k, x = .bl k ∧ Q k H') k k' (by
    obtain ⟨G, M, R, h⟩ := h
    exact ⟨G, M, R, h.imp fun _ _ _ b _ _ q => ⟨b, rfl, q⟩⟩)⟩
end
@[simp] def cpI (p : Int → Int → Bool) : Cp2 := fun x y _ => match x, y with
  | .v (.int i), .v (.int j) => some (p i j)
  | _, _ => none
theorem cpI_ok {p : Int → Int → Bool} : Cp2Ok X (rI0 fun i j => .bl (p i j)) (cpI p) := by
  intro E s G M H H0 x y u v b Q R rx ry e q
  simp only [cpI] at e
  split at e
  · rename_i i j
    cases e
    exact ⟨i, j, repE_int rx, repE_int ry, q⟩
  · cases e
def cpLt : Cp2 := cpI fun i j => decide (i < j)
@[simp] theorem cpLt_at (x y : EV) (M : Mem) : cpLt x y M = (cpI fun i j => decide (i < j)) x y M := rfl
def cpLe : Cp2 := cpI fun i j => decide (i ≤ j)
@[simp] theorem cpLe_at (x y : EV) (M : Mem) : cpLe x y M = (cpI fun i j => decide (i ≤ j)) x y M := rfl
def cpGt : Cp2 := cpI fun i j => decide (j < i)
@[simp] theorem cpGt_at (x y : EV) (M : Mem) : cpGt x y M = (cpI fun i j => decide (j < i)) x y M := rfl
def cpGe : Cp2 := cpI fun i j => decide (j ≤ i)
@[simp] theorem cpGe_at (x y : EV) (M : Mem) : cpGe x y M = (cpI fun i j => decide (j ≤ i)) x y M := rfl
/-! equality of data -/
mutual
def PV.toD : PV → Option PyData
  | .non => some .none
  | .bl b => some (.bool b)
  | .int i => some (.int i)
  | .str x => some (.str x)
  | .tup xs => (toDs xs).map .tuple
  | .lst xs => (toDs xs).map .list
  | .rol xs => (toDs xs).map .list
  | _ => none
def toDs : List PV → Option (List PyData)
  | [] => some []
  | x :: xs => match x.toD, toDs xs with
    | some d, some ds => some (d :: ds)
    | _, _ => none
end
@[simp] def evD (M : Mem) (e : EV) : Option PyData := match e with
  | .v (.ref r) => ((asLst M (.v (.ref r))).bind toDs).map .list
  | .v p => p.toD
  | e => ((asLst M e).bind toDs).map .list
mutual
theorem toD_rep {K : PySem.W.Frag} {G : Gh} {H : Hp} : ∀ (p : PV) (d : PyData) (v : V), p.toD = some d → RepV K G H p v → Dp K H v d
  | .non, d, v, e, h => by simp only [PV.toD] at e; cases e; simp only [RepV] at h; subst h; exact .non
  | .bl b, d, v, e, h => by simp only [PV.toD] at e; cases e; simp only [RepV] at h; subst h; exact .bl b
  | .int b, d, v, e, h => by simp only [PV.toD] at e; cases e; simp only [RepV] at h; subst h; exact .int b
  | .str b, d, v, e, h => by simp only [PV.toD] at e; cases e; simp only [RepV] at h; subst h; exact .str b
  | .tup xs, d, v, e, h => by
    simp only [PV.toD] at e
    cases e1 : toDs xs with
    | none => rw [e1] at e; cases e
    | some ds =>
      rw [e1] at e; cases e
      obtain ⟨a, us, rfl, q, r, z⟩ := tup_of h
      exact .tup q (toDs_rep xs ds us e1 r)
  | .lst xs, d, v, e, h => by
    simp only [PV.toD] at e
    cases e1 : toDs xs with
    | none => rw [e1] at e; cases e
    | some ds =>
      rw [e1] at e; cases e
      simp only [RepV] at h
      obtain ⟨a, us, rfl, ⟨_, _, q⟩, r⟩ := h
      exact .lst (.inl q) (toDs_rep xs ds us e1 r)
  | .rol xs, d, v, e, h => by
    simp only [PV.toD] at e
    cases e1 : toDs xs with
    | none => rw [e1] at e; cases e
    | some ds =>
      rw [e1] at e; cases e
      simp only [RepV] at h
      obtain ⟨a, us, rfl, q, r⟩ := h
      exact .lst q.sq (toDs_rep xs ds us e1 r)
  | .dct _ _, d, v, e, h => by simp only [PV.toD] at e; cases e
  | .ref _, d, v, e, h => by simp only [PV.toD] at e; cases e
  | .con _, d, v, e, h => by simp only [PV.toD] at e; cases e
  | .exc _, d, v, e, h => by simp only [PV.toD] at e; cases e
  | .fn _, d, v, e, h => by simp only [PV.toD] at e; cases e
theorem toDs_rep {K : PySem.W.Frag} {G : Gh} {H : Hp} : ∀ (ps : List PV) (ds : List PyData) (vs : List V), toDs ps = some ds → RepVs K G H ps vs → DpAll K H vs ds
  | [], ds, vs, e, h => by simp only [toDs] at e; cases e; rw [RepVs.nil_iff.mp h]; exact .nil
  | p :: ps, ds, vs, e, h => by
    obtain ⟨u, us, rfl, r, t⟩ := RepVs.cons_iff.mp h
    simp only [toDs] at e
    split at e
    · rename_i d ds' e1 e2
      cases e
      exact .cons (toD_rep p d u e1 r) (toDs_rep ps ds' us e2 t)
    · cases e
end
theorem evD_rep {E : Ent} {H0 : Hp} {G : Gh} {M : Mem} {s : L2.St} {H : Hp} {e : EV} {u : V} {d : PyData} (R : StRep X.K E G M s H) (r : RepE X.K E H0 G M s H e u) (h : evD M e = some d) : Dp X.K H u d := by
  have viaL : ∀ {e : EV}, RepE X.K E H0 G M s H e u → ((asLst M e).bind toDs).map .list = some d → Dp X.K H u d := fun {e} r h => by
    cases e1 : asLst M e with
    | none => rw [e1] at h; cases h
    | some xs =>
      rw [e1] at h
      have h : (toDs xs).map PyData.list = some d := h
      cases e2 : toDs xs with
      | none => rw [e2] at h; cases h
      | some ds =>
        rw [e2] at h; cases h
        obtain ⟨a, us, rfl, q, rr, z⟩ := lst_of R r e1
        exact .lst q (toDs_rep xs ds us e2 rr)
  cases e with
  | v p =>
    cases p with
    | ref c => exact viaL r h
    | non => exact toD_rep (G := G) _ _ _ h r
    | bl b => exact toD_rep (G := G) _ _ _ h r
    | int b => exact toD_rep (G := G) _ _ _ h r
    | str b => exact toD_rep (G := G) _ _ _ h r
    | tup b => exact toD_rep (G := G) _ _ _ h r
    | lst b => exact toD_rep (G := G) _ _ _ h r
    | dct b c => exact toD_rep (G := G) _ _ _ h r
    | con b => exact toD_rep (G := G) _ _ _ h r
    | rol b => exact toD_rep (G := G) _ _ _ h r
    | exc b => exact toD_rep (G := G) _ _ _ h r
    | fn b => exact toD_rep (G := G) _ _ _ h r
  | fr o => exact viaL r h
  | sl i => exact viaL r h
/-- == of scalars -/
@[simp] def eqS : Cp2 := fun x y _ => match x, y with
  | .v (.int i), .v (.int j) => some (decide (i = j))
  | .v (.str i), .v (.str j) => some (decide (i = j))
  | .v (.bl i), .v (.bl j) => some (decide (i = j))
  | .v .non, .v .non => some true
  | .v .non, .v (.int _) => some false
  | .v .non, .v (.str _) => some false
  | .v (.int _), .v .non => some false
  | .v (.str _), .v .non => some false
  | _, _ => none
theorem eqS_ok {E : Ent} {H0 : Hp} {G : Gh} {M : Mem} {s : L2.St} {H : Hp} {x y : EV} {u v : V} {b : Bool} (rx : RepE X.K E H0 G M s H x u) (ry : RepE X.K E H0 G M s H y v) (h : eqS x y M = some b) : scal u v = true ∧ decide (u = v) = b := by
  have non : ∀ {u : V}, RepE X.K E H0 G M s H (.v .non) u → u = .non := fun {u} h => by
    have h : RepV X.K G H .non u := h
    simpa only [RepV] using h
  simp only [eqS] at h
  split at h
  · cases h; rw [repE_int rx, repE_int ry]; exact ⟨rfl, by simp⟩
  · cases h; rw [repE_str rx, repE_str ry]; exact ⟨rfl, by simp⟩
  · cases h; rw [repE_bl rx, repE_bl ry]; exact ⟨rfl, by simp⟩
  · cases h; rw [non rx, non ry]; exact ⟨rfl, by simp⟩
  · cases h; rw [non rx, repE_int ry]; exact ⟨rfl, by simp⟩
  · cases h; rw [non rx, repE_str ry]; exact ⟨rfl, by simp⟩
  · cases h; rw [repE_int rx, non ry]; exact ⟨rfl, by simp⟩
  · cases h; rw [repE_str rx, non ry]; exact ⟨rfl, by simp⟩
  · cases h
@[simp] def eqD : Cp2 := fun x y M => match evD M x, evD M y with
  | some d, some e => if SeqAt.shaped d && SeqAt.shaped e then some (PyData.eqv d e) else none
  | _, _ => none
theorem eqD_ok {E : Ent} {H0 : Hp} {G : Gh} {M : Mem} {s : L2.St} {H : Hp} {x y : EV} {u v : V} {b : Bool} (R : StRep X.K E G M s H) (rx : RepE X.K E H0 G M s H x u) (ry : RepE X.K E H0 G M s H y v) (h : eqD x y M = some b) :
    ∃ d e, Dp X.K H u d ∧ Dp X.K H v e ∧ SeqAt.shaped d = true ∧ SeqAt.shaped e = true ∧ PyData.eqv d e = b := by
  simp only [eqD] at h
  split at h
  · rename_i d e e1 e2
    split at h
    · rename_i z
      rw [Bool.and_eq_true] at z
      cases h
      exact ⟨d, e, evD_rep R rx e1, evD_rep R ry e2, z.1, z.2, rfl⟩
    · cases h
  · cases h
@[simp] def cpEq : Cp2 := fun x y M => (eqS x y M).or (eqD x y M)
@[simp] def cpNe : Cp2 := fun x y M => ((eqS x y M).map (!·)).or ((eqD x y M).map (!·))
theorem cpEq_ok : Cp2Ok X (fun x y H Q => rEq x y H Q ∨ rEqD X.K x y H Q) cpEq := by
  refine Cp2Ok.or (fun E s G M H H0 x y u v b Q R rx ry e q => ?_) fun E s G M H H0 x y u v b Q R rx ry e q => ?_
  · obtain ⟨h1, h2⟩ := eqS_ok rx ry e
    exact ⟨h1, by rw [h2]; exact q⟩
  · obtain ⟨d, d', h1, h2, h3, h4, h5⟩ := eqD_ok R rx ry e
    exact ⟨d, d', h1, h2, h3, h4, by rw [h5]; exact q⟩
theorem cpNe_ok : Cp2Ok X (fun x y H Q => rNe x y H Q ∨ rNeD X.K x y H Q) cpNe := by
  refine Cp2Ok.or (o := fun x y M => (eqS x y M).map (!·)) (o' := fun x y M => (eqD x y M).map (!·)) (fun E s G M H H0 x y u v b Q R rx ry e q => ?_) fun E s G M H H0 x y u v b Q R rx ry e q => ?_
  · cases e1 : eqS x y M with
    | none => simp only [e1] at e; cases e
    | some c =>
      simp only [e1] at e; cases e
      obtain ⟨h1, h2⟩ := eqS_ok rx ry e1
      exact ⟨h1, by rw [h2]; exact q⟩
  · cases e1 : eqD x y M with
    | none => simp only [e1] at e; cases e
    | some c =>
      simp only [e1] at e; cases e
      obtain ⟨d, d', h1, h2, h3, h4, h5⟩ := eqD_ok R rx ry e1
      exact ⟨d, d', h1, h2, h3, h4, by rw [h5]; exact q⟩
theorem op_eqA (A : Amb Z X W N sc fs k) : OpR X (compareOp .Eq) (fun x y H Q => rEq x y H Q ∨ rEqD X.K x y H Q) := op_eq.or (op_eqD A.u64)
theorem op_neA (A : Amb Z X W N sc fs k) : OpR X (compareOp .NotEq) (fun x y H Q => rNe x y H Q ∨ rNeD X.K x y H Q) := op_ne.or (op_neD A.u64)
section
variable {a b c : Expr} {f g l : Sm EV} {pos : Pos}
theorem fe_eq (A : Amb Z X W N sc fs k) (ha : FE X E W a f) (hb : FE X E W b g) : FE X E W (.Compare a [.Eq] [b] pos) (eB (b2 cpEq f g)) := fe_cmp (op_eqA A) cpEq_ok ha hb (nomark _)
theorem ft_eq (A : Amb Z X W N sc fs k) (ha : FE X E W a f) (hb : FE X E W b g) : FT X E W (.Compare a [.Eq] [b] pos) (b2 cpEq f g) := ft_cmp (op_eqA A) cpEq_ok ha hb (nomark _)
theorem fe_ne (A : Amb Z X W N sc fs k) (ha : FE X E W a f) (hb : FE X E W b g) : FE X E W (.Compare a [.NotEq] [b] pos) (eB (b2 cpNe f g)) := fe_cmp (op_neA A) cpNe_ok ha hb (nomark _)
theorem ft_ne (A : Amb Z X W N sc fs k) (ha : FE X E W a f) (hb : FE X E W b g) : FT X E W (.Compare a [.NotEq] [b] pos) (b2 cpNe f g) := ft_cmp (op_neA A) cpNe_ok ha hb (nomark _)
theorem fe_lt (ha : FE X E W a f) (hb : FE X E W b g) : FE X E W (.Compare a [.Lt] [b] pos) (eB (b2 cpLt f g)) := fe_cmp op_lt cpI_ok ha hb (nomark _)
theorem ft_lt (ha : FE X E W a f) (hb : FE X E W b g) : FT X E W (.Compare a [.Lt] [b] pos) (b2 cpLt f g) := ft_cmp op_lt cpI_ok ha hb (nomark _)
theorem fe_le (ha : FE X E W a f) (hb : FE X E W b g) : FE X E W (.Compare a [.LtE] [b] pos) (eB (b2 cpLe f g)) := fe_cmp op_le cpI_ok ha hb (nomark _)
theorem ft_le (ha : FE X E W a f) (hb : FE X E W b g) : FT X E W (.Compare a [.LtE] [b] pos) (b2 cpLe f g) := ft_cmp op_le cpI_ok ha hb (nomark _)
theorem fe_gt (ha : FE X E W a f) (hb : FE X E W b g) : FE X E W (.Compare a [.Gt] [b] pos) (eB (b2 cpGt f g)) := fe_cmp op_gt cpI_ok ha hb (nomark _)
theorem ft_gt (ha : FE X E W a f) (hb : FE X E W b g) : FT X E W (.Compare a [.Gt] [b] pos) (b2 cpGt f g) := ft_cmp op_gt cpI_ok ha hb (nomark _)
theorem fe_ge (ha : FE X E W a f) (hb : FE X E W b g) : FE X E W (.Compare a [.GtE] [b] pos) (eB (b2 cpGe f g)) := fe_cmp op_ge cpI_ok ha hb (nomark _)
theorem ft_ge (ha : FE X E W a f) (hb : FE X E W b g) : FT X E W (.Compare a [.GtE] [b] pos) (b2 cpGe f g) := ft_cmp op_ge cpI_ok ha hb (nomark _)
end
/-! is None -/
@[simp] def isN (M : Mem) (e : EV) : Option Bool := match e with
  | .v .non => some true
  | .sl i => match slotAt M i with
    | some (.own _) => some false
    | _ => none
  | _ => some false
@[simp] def bNon (f : Sm EV) : Sm Bool := fun M => (f M).bnd fun x M1 => optR (isN M1 x) M1
@[simp] def bNot (f : Sm Bool) : Sm Bool := fun M => (f M).bnd fun x M1 => .ok (!x) M1
theorem isN_rep {E : Ent} {H0 : Hp} {G : Gh} {M : Mem} {s : L2.St} {H : Hp} {x : EV} {u : V} {b : Bool} (R : StRep X.K E G M s H) (rx : RepE X.K E H0 G M s H x u) (hx : isN M x = some b) : decide (u = .non) = b := by
  cases x with
  | v p =>
    have rx : RepV X.K G H p u := rx
    cases p <;> simp only [RepV] at rx <;> simp only [isN, Option.some.injEq] at hx <;> subst hx
    case non => subst rx; rfl
    case bl => subst rx; rfl
    case int => subst rx; rfl
    case str => subst rx; rfl
    case con => subst rx; rfl
    case ref => obtain ⟨a, z, _⟩ := rx; subst z; rfl
    case exc => obtain ⟨a, z, _⟩ := rx; subst z; rfl
    case fn => obtain ⟨a, z, _⟩ := rx; subst z; rfl
    all_goals (obtain ⟨a, us, z, _⟩ := rx; subst z; rfl)
  | fr o => obtain ⟨a, w, z, _⟩ := rx; subst z; cases hx; rfl
  | sl i =>
    simp only [isN] at hx
    split at hx
    · rename_i o ho
      cases hx
      obtain ⟨a, w, z, _⟩ := R.own i o (slotAt_some ho)
      have rx : s[i]? = some (some u) := rx
      rw [z] at rx
      cases rx
      rfl
    · cases hx
theorem tB_non {f : Sm EV} {s : L2.St} {H : Hp} {Q : VK} (h : tB' X E W (bNon f) s H fun b H' => Q (.bl b) H') : tIsN (tE X E W f) s H Q := by
  obtain ⟨G, M, R, h⟩ := h
  refine tE_one R h fun G1 M1 H1 x u V1 R1 rx h1 => ?_
  cases eo : isN M1 x with
  | none => rw [eo] at h1; exact False.elim h1
  | some b =>
    rw [eo] at h1
    rw [isN_rep R1 rx eo]
    exact OutP.now h1 R1
theorem tB_not {f : Sm Bool} {s : L2.St} {H : Hp} {Q : Bool → Hp → Prop} (h : tB' X E W (bNot f) s H Q) : tB' X E W f s H fun b H' => Q (!b) H' := by
  obtain ⟨G, M, R, h⟩ := h
  exact tB_one R h fun G1 M1 H1 b V1 R1 h1 => h1.now R1
section
variable {a b : Expr} {f g : Sm EV} {pos : Pos}
theorem tIsN_tNotN {te : TE} {s : L2.St} {H : Hp} {Q : VK} (h : tIsN te s H fun x H' => ∃ c, x = .bl c ∧ Q (.bl !c) H') : te s H fun x H1 => ∃ c, V.bl (decide (x = .non)) = .bl c ∧ Q (.bl !c) H1 := h
theorem fe_isN {j pos'} (ha : FE X E W a f) : FE X E W (.Compare a [.Is] [.Constant .none j pos'] pos) (eB (bNon f)) :=
  ⟨PE.weak (pe_cmp (pc_isN ha.pe) (nomark _)) fun _ _ _ h => tB_non (tE_eB h)⟩
theorem ft_isN {j pos'} (ha : FE X E W a f) : FT X E W (.Compare a [.Is] [.Constant .none j pos'] pos) (bNon f) :=
  ⟨PT.weak (pt_cmp (pc_isN ha.pe) (nomark _)) fun s H Q h => tB_non (Q := fun x H' => ∃ k, x = .bl k ∧ Q k H') (by
    obtain ⟨G, M, R, h⟩ := h
    exact ⟨G, M, R, h.imp fun _ _ _ b _ _ q => ⟨b, rfl, q⟩⟩)⟩
theorem tNotN_of {s : L2.St} {H : Hp} {Q : VK} (h : tB' X E W (bNot (bNon f)) s H fun b H' => Q (.bl b) H') : tNotN (tE X E W f) s H Q := by
  obtain ⟨G, M, R, h⟩ := tB_not h
  refine tE_one R h fun G1 M1 H1 x u V1 R1 rx h1 => ?_
  cases eo : isN M1 x with
  | none => rw [eo] at h1; exact False.elim h1
  | some b =>
    rw [eo] at h1
    rw [isN_rep R1 rx eo]
    exact OutP.now h1 R1
theorem fe_notN {j pos'} (ha : FE X E W a f) : FE X E W (.Compare a [.IsNot] [.Constant .none j pos'] pos) (eB (bNot (bNon f))) :=
  ⟨PE.weak (pe_cmp (pc_notN ha.pe) (nomark _)) fun _ _ _ h => tNotN_of (tE_eB h)⟩
theorem ft_notN {j pos'} (ha : FE X E W a f) : FT X E W (.Compare a [.IsNot] [.Constant .none j pos'] pos) (bNot (bNon f)) :=
  ⟨PT.weak (pt_cmp (pc_notN ha.pe) (nomark _)) fun s H Q h => tNotN_of (Q := fun x H' => ∃ k, x = .bl k ∧ Q k H') (by
    obtain ⟨G, M, R, h⟩ := h
    exact ⟨G, M, R, h.imp fun _ _ _ b _ _ q => ⟨b, rfl, q⟩⟩)⟩
end
end
end HF

end
section
set_option Elab.async false
set_option linter.all false
set_option maxRecDepth 20000
set_option autoImplicit false
/-! HF5: and, or, not, displays, subscripts, slices, built-in functions of one or two arguments. -/
namespace HF
open PySem PySem.Spec PyProof.Rows L2
section
variable {X : Cx} {E : Ent} {W : WX} {N : List Str} {sc : Scope} {fs : Str → Bool} {k : Nat} {Z : Wd}
/-! ### and, or, not, if else -/
@[simp] def bAnd (f g : Sm Bool) : Sm Bool := fun M => (f M).bnd fun b M1 => if b = true then g M1 else .ok false M1
@[simp] def bOr (f g : Sm Bool) : Sm Bool := fun M => (f M).bnd fun b M1 => if b = true then .ok true M1 else g M1
theorem tB_and {f g : Sm Bool} {s : L2.St} {H : Hp} {Q : Bool → Hp → Prop} (h : tB' X E W (bAnd f g) s H Q) : tAnd (tB' X E W f) (tB' X E W g) s H Q := by
  obtain ⟨G, M, R, h⟩ := h
  refine tB_one R h fun G1 M1 H1 b V1 R1 h1 => ?_
  cases b with
  | true =>
    rw [if_pos rfl] at h1
    exact iteT ⟨G1, M1, R1, h1⟩
  | false => exact iteF (OutP.now h1 R1)
theorem tB_or {f g : Sm Bool} {s : L2.St} {H : Hp} {Q : Bool → Hp → Prop} (h : tB' X E W (bOr f g) s H Q) : tOr (tB' X E W f) (tB' X E W g) s H Q := by
  obtain ⟨G, M, R, h⟩ := h
  refine tB_one R h fun G1 M1 H1 b V1 R1 h1 => ?_
  cases b with
  | true => exact iteT (OutP.now h1 R1)
  | false =>
    rw [if_neg Bool.false_ne_true] at h1
    exact iteF ⟨G1, M1, R1, h1⟩
section
variable {a b : Expr} {rest : List Expr} {f g : Sm Bool} {pos : Pos}
theorem FW.ft (h : FW X E W a f) : FT X E W a f := ⟨h.pe.pt⟩
theorem fw_and1 (h : FT X E W a f) : FW X E W (.BoolOp .And [a] pos) f := ⟨pw_and1 h.pe⟩
theorem fw_or1 (h : FT X E W a f) : FW X E W (.BoolOp .Or [a] pos) f := ⟨pw_or1 h.pe⟩
theorem fw_and (h : FT X E W a f) (h' : FW X E W (.BoolOp .And (b :: rest) pos) g) : FW X E W (.BoolOp .And (a :: b :: rest) pos) (bAnd f g) := ⟨PW.weak (pw_and h.pe h'.pe) fun _ _ _ => tB_and⟩
theorem fw_or (h : FT X E W a f) (h' : FW X E W (.BoolOp .Or (b :: rest) pos) g) : FW X E W (.BoolOp .Or (a :: b :: rest) pos) (bOr f g) := ⟨PW.weak (pw_or h.pe h'.pe) fun _ _ _ => tB_or⟩
theorem ft_not (h : FT X E W a f) : FT X E W (.UnaryOp .Not a pos) (bNot f) := ⟨PT.weak (pt_not h.pe) fun _ _ _ => tB_not⟩
end
/-- the truth of a truth -/
@[simp] def bVal (f : Sm EV) : Sm Bool := fun M => (f M).bnd fun x M1 => match x with
  | .v (.bl b) => .ok b M1
  | _ => .bad
theorem tB_val {f : Sm EV} {s : L2.St} {H : Hp} {Q : Bool → Hp → Prop} (h : tB' X E W (bVal f) s H Q) : tE X E W f s H fun x H' => ∃ c, x = .bl c ∧ Q c H' := by
  obtain ⟨G, M, R, h⟩ := h
  refine tE_one R h fun G1 M1 H1 x u V1 R1 rx h1 => ?_
  split at h1
  · exact ⟨_, repE_bl rx, OutP.now h1 R1⟩
  · exact False.elim h1
section
variable {a b c : Expr} {rest : List Expr} {f g l : Sm EV} {pos : Pos}
theorem ft_val (h : FE X E W a f) (he : ∀ whole, isTrue a X.env whole = (do let v ← whole; standAt a.pos; holding [v] (truthy v)) := by intro _; rfl) : FT X E W a (bVal f) := ⟨PT.weak (pt_val h.pe he) fun _ _ _ => tB_val⟩
@[simp] def eAnd (f g : Sm EV) : Sm EV := fun M => (bVal f M).bnd fun b M1 => if b = true then g M1 else .ok (.v (.bl false)) M1
@[simp] def eOr (f g : Sm EV) : Sm EV := fun M => (bVal f M).bnd fun b M1 => if b = true then .ok (.v (.bl true)) M1 else g M1
theorem tE_re {s : L2.St} {G G1 : Gh} {M M1 : Mem} {H H1 : Hp} {Q : VK} {r : Res EV} (V1 : Evo s G M H G1 M1 H1) (h : OutP X E W s G1 M1 H1 r fun G' M' H' ev => ∀ u, RepE X.K E H G' M' s H' ev u → Q u H') :
    OutP X E W s G1 M1 H1 r fun G' M' H' ev => ∀ u, RepE X.K E H1 G' M' s H' ev u → Q u H' := h.imp fun _ _ _ _ _ _ q u ru => q u (ru.old V1.dom)
theorem fe_one {op} (h : FE X E W a f) : FE X E W (.BoolOp op [a] pos) f := ⟨pe_one h.pe⟩
theorem fe_and (h : FE X E W a f) (h' : FE X E W (.BoolOp .And (b :: rest) pos) g) : FE X E W (.BoolOp .And (a :: b :: rest) pos) (eAnd f g) := by
  refine ⟨PE.weak (pe_and h.pe h'.pe) ?_⟩
  rintro s H Q ⟨G, M, R, h⟩
  refine tB_val (Q := fun c H1 => if c = true then tE X E W g s H1 Q else Q (.bl false) H1) (tB_one R h fun G1 M1 H1 b V1 R1 h1 => ?_)
  cases b with
  | true =>
    rw [if_pos rfl] at h1
    exact iteT ⟨G1, M1, R1, tE_re V1 h1⟩
  | false => exact iteF (OutP.now h1 R1 _ repE_blI)
theorem fe_or (h : FE X E W a f) (h' : FE X E W (.BoolOp .Or (b :: rest) pos) g) : FE X E W (.BoolOp .Or (a :: b :: rest) pos) (eOr f g) := by
  refine ⟨PE.weak (pe_or h.pe h'.pe) ?_⟩
  rintro s H Q ⟨G, M, R, h⟩
  refine tB_val (Q := fun c H1 => if c = true then Q (.bl true) H1 else tE X E W g s H1 Q) (tB_one R h fun G1 M1 H1 b V1 R1 h1 => ?_)
  cases b with
  | true => exact iteT (OutP.now h1 R1 _ repE_blI)
  | false =>
    rw [if_neg Bool.false_ne_true] at h1
    exact iteF ⟨G1, M1, R1, tE_re V1 h1⟩
theorem fe_not (h : FE X E W a f) : FE X E W (.UnaryOp .Not a pos) (eB (bNot (bVal f))) := by
  refine ⟨PE.weak (pe_not h.pe) fun s H Q h => ?_⟩
  exact tB_val (tB_not (tE_eB h))
@[simp] def eIf (c : Sm Bool) (f g : Sm EV) : Sm EV := fun M => (c M).bnd fun b M1 => if b = true then f M1 else g M1
theorem fe_ifExp {t : Sm Bool} (hc : FT X E W c t) (h : FE X E W a f) (h' : FE X E W b g) : FE X E W (.IfExp c a b pos) (eIf t f g) := by
  refine ⟨PE.weak (pe_ifExp hc.pe h.pe h'.pe) ?_⟩
  rintro s H Q ⟨G, M, R, h⟩
  refine tB_one R h fun G1 M1 H1 b V1 R1 h1 => ?_
  cases b with
  | true =>
    rw [if_pos rfl] at h1
    exact iteT ⟨G1, M1, R1, tE_re V1 h1⟩
  | false =>
    rw [if_neg Bool.false_ne_true] at h1
    exact iteF ⟨G1, M1, R1, tE_re V1 h1⟩
end

/-! ### arguments, displays -/
@[simp] def aNil : Sm (List PV) := fun M => .ok [] M
@[simp] def aCons (f : Sm PV) (g : Sm (List PV)) : Sm (List PV) := fun M => (f M).bnd fun p M1 => (g M1).bnd fun ps M2 => .ok (p :: ps) M2
structure FL (X : Cx) (E : Ent) (W : WX) (es : List Expr) (f : Sm (List PV)) : Prop where
  fa : FA X E W es f
  len : ∀ M ps M', f M = .ok ps M' → ps.length = es.length
section
variable {e : Expr} {es : List Expr} {f : Sm PV} {g : Sm (List PV)} {pos : Pos}
theorem fl_nil : FL X E W [] aNil := by
  refine ⟨⟨PA.weak pa_nil ?_⟩, fun M ps M' h => by cases h; rfl⟩
  rintro s H Q ⟨G, M, R, h⟩
  exact h.now R [] RepVs.nil
theorem fl_cons (he : FP X E W e f) (hr : FL X E W es g) (hs : starEach (e :: es) X.env = (false, eval e X.env) :: starEach es X.env := by rfl) : FL X E W (e :: es) (aCons f g) := by
  refine ⟨⟨PA.weak (pa_cons he.pe hr.fa.pe hs) ?_⟩, fun M ps M' h => ?_⟩
  · rintro s H Q ⟨G, M, R, h⟩
    refine tP_one R h fun G1 M1 H1 p u V1 R1 rp h1 => ?_
    refine tL_one R1 h1 fun G2 M2 H2 ps us V2 R2 rps h2 => ?_
    exact OutP.now h2 R2 _ (RepVs.cons (RepV.mono V2.ext _ _ rp) rps)
  · simp only [aCons] at h
    cases h1 : f M with
    | ok p M1 =>
      rw [h1] at h
      simp only [Res.bnd] at h
      cases h2 : g M1 with
      | ok ps' M2 =>
        rw [h2] at h
        cases h
        rw [List.length_cons, List.length_cons, hr.len _ _ _ h2]
      | exn c M2 => rw [h2] at h; cases h
      | bad => rw [h2] at h; cases h
    | exn c M1 => rw [h1] at h; cases h
    | bad => rw [h1] at h; cases h
@[simp] def eTup (g : Sm (List PV)) : Sm EV := fun M => (g M).bnd fun ps M1 => .ok (.v (.tup ps)) M1
@[simp] def eLst (g : Sm (List PV)) : Sm EV := fun M => (g M).bnd fun ps M1 => .ok (.fr (.lst ps)) M1
theorem fe_tup {x1} (h : FL X E W es g) (z : es.length ≤ 1000 := by decide) : FE X E W (.Tuple es x1 pos) (eTup g) := by
  refine ⟨PE.weak (pe_tup h.fa.pe) ?_⟩
  rintro s H Q ⟨G, M, R, hh⟩
  refine ⟨G, M, R, ?_⟩
  cases hg : g M with
  | exn c M1 => simp only [eTup, hg, Res.bnd] at hh; exact hh
  | bad => simp only [eTup, hg, Res.bnd] at hh; exact hh
  | ok ps M1 =>
    simp only [eTup, hg, Res.bnd] at hh
    intro G1 H1 V1 R1 us rr
    have zz : us.length ≤ sizeLine := by rw [← rr.length, h.len M ps M1 hg, sizeLine_eq]; omega
    refine ⟨zz, fun p hp => ?_⟩
    obtain ⟨V2, R2, r2⟩ := rep_newtup R1 rr zz hp
    exact hh _ _ (V1.trans V2) R2 _ r2
theorem fe_lst (h : FL X E W es g) (z : es.length ≤ 1000 := by decide) : FE X E W (.List es pos) (eLst g) := by
  refine ⟨PE.weak (pe_lst h.fa.pe) ?_⟩
  rintro s H Q ⟨G, M, R, hh⟩
  refine ⟨G, M, R, ?_⟩
  cases hg : g M with
  | exn c M1 => simp only [eLst, hg, Res.bnd] at hh; exact hh
  | bad => simp only [eLst, hg, Res.bnd] at hh; exact hh
  | ok ps M1 =>
    simp only [eLst, hg, Res.bnd] at hh
    intro G1 H1 V1 R1 us rr
    have zz : us.length ≤ sizeLine := by rw [← rr.length, h.len M ps M1 hg, sizeLine_eq]; omega
    refine ⟨zz, fun p hp => ?_⟩
    obtain ⟨V2, R2, r2⟩ := rep_newlst (H0 := H) R1 V1.dom rr zz hp
    exact hh _ _ (V1.trans V2) R2 _ r2
/-- {} -/
@[simp] def eDct0 : Sm EV := fun M => .ok (.fr (.dct [] [])) M
theorem fe_dct0 : FE X E W (.Dict [] [] pos) eDct0 := by
  refine ⟨PE.weak pe_dnewK ?_⟩
  rintro s H Q ⟨G, M, R, hh⟩ p hp
  obtain ⟨R1, V1, eh, nf, na, no⟩ := R.laid (.dK []) hp
  exact hh G _ V1 R1 _ ⟨p, _, rfl, upd_same, ⟨[], rfl, Nat.zero_le _, rfl, RepVs.nil⟩, eh, nf, na, no, hp⟩
end

/-! ### dicts by keys -/
@[simp] def keyOf : EV → Option Key
  | .v (.int i) => some (.inl i)
  | .v (.str x) => some (.inr x)
  | _ => none
theorem key_rep {H0 : Hp} {G : Gh} {M : Mem} {s : L2.St} {H : Hp} {e : EV} {u : V} {q : Key} (r : RepE X.K E H0 G M s H e u) (h : keyOf e = some q) : u = kV q := by
  unfold keyOf at h
  split at h
  · cases h; exact repE_int r
  · cases h; exact repE_str r
  · cases h
@[simp] def dGet : List Key → List PV → Key → Option PV
  | q :: ks, x :: xs, k => if q = k then some x else dGet ks xs k
  | _, _, _ => none
def dPut : List Key → List PV → Key → PV → List Key × List PV
  | q :: ks, x :: xs, k, p => if q = k then (q :: ks, p :: xs) else let r := dPut ks xs k p; (q :: r.1, x :: r.2)
  | _, _, k, p => ([k], [p])
theorem dGet_rep {K : PySem.W.Frag} {G : Gh} {H : Hp} : ∀ {kvs : List (Key × V)} {ks : List Key} {xs : List PV} (k : Key), kvs.map (·.1) = ks → RepVs K G H xs (kvs.map (·.2)) →
    (match dGet ks xs k with | some p => ∃ v, valV kvs k = some v ∧ RepV K G H p v | none => valV kvs k = none)
  | [], ks, xs, k, e, r => by
    cases e
    have e2 : xs = [] := List.length_eq_zero_iff.mp r.length
    subst e2
    simp [dGet, valV]
  | (q, v) :: kvs, ks, xs, k, e, r => by
    cases e
    cases xs with
    | nil => have := r.length; simp at this
    | cons x xs =>
      obtain ⟨u, us, e2, r1, r2⟩ := RepVs.cons_iff.mp r
      cases e2
      simp only [List.map_cons, dGet]
      by_cases h : q = k
      · rw [if_pos h]
        exact ⟨v, valV_pos h, r1⟩
      · rw [if_neg h, valV_neg (p := (q, v)) h]
        exact dGet_rep k rfl r2

/-! ### subscripts -/
theorem ix_dict (hu : X.A.units + 1 < cLine) : IxR X (fun x y H Q => ∃ a v, x = .ref a ∧ DGet H a y (some v) ∧ Q v H) := by
  intro value slice pins s σ H x y v u Q I rx ry h hs
  obtain ⟨a, z, rfl, g, q⟩ := h
  cases rx
  exact tail_any (dict_typeIs I g) PySem.F.slot_dict_getitem.lookup (d_getItem hu I g ry fun w' s3 I3 rw' => ⟨z, H, I3, rw', q⟩) hs
theorem atI_rep {K : PySem.W.Frag} {G : Gh} {H : Hp} {xs : List PV} {us : List V} {i : Int} {p : PV} (r : RepVs K G H xs us) (h : atI xs i = some p) : ∃ v, atI us i = some v ∧ RepV K G H p v := by
  unfold atI at h ⊢
  rw [← r.length]
  cases e : ixN xs.length i with
  | none => rw [e] at h; cases h
  | some j =>
    rw [e] at h
    exact r.get h
@[simp] def opIx : Op2 := fun x y M => match y with
  | .v (.int i) => match x with
    | .v (.tup xs) => (atI xs i).map .v
    | .v (.str z) => if z.length ≤ sizeLine then (atI z.cps.toList i).map fun c => .v (.str ⟨#[c]⟩) else none
    | x => match asLst M x with
      | some xs => (atI xs i).map .v
      | none => match asDct M x with
        | some (ks, xs) => (dGet ks xs (.inl i)).map .v
        | none => none
  | .v (.str t) => match asDct M x with
    | some (ks, xs) => (dGet ks xs (.inr t)).map .v
    | none => none
  | _ => none
theorem rd_dget {H : Hp} {a : Addr} {kvs : List (Key × V)} {k : Key} (e : Rd H a (.dK kvs)) : DGet H a (kV k) (valV kvs k) := .inl ⟨kvs, k, e, rfl, rfl⟩
theorem opIx_ok : Op2Ok X (fun x y H Q => rIx X.K x y H Q ∨ ∃ a v, x = .ref a ∧ DGet H a y (some v) ∧ Q v H) opIx := by
  intro E s G M H H0 x y u v ev Q R d rx ry e q
  have fin : ∀ {p : PV} {w : V}, ev = .v p → RepV X.K G H p w → Q w H := fun {p w} e r => q G H w (Evo.refl _ _ _ _) R (by subst e; exact r)
  have dict : ∀ {ks xs k}, asDct M x = some (ks, xs) → (dGet ks xs k).map EV.v = some ev → v = kV k → rIx X.K u v H Q ∨ ∃ a w, u = .ref a ∧ DGet H a v (some w) ∧ Q w H := fun {ks xs k} e1 e2 ev' => by
    obtain ⟨a, kvs, rfl, hr, hk, rr, z⟩ := dct_of R rx e1
    have g := dGet_rep k hk rr
    cases e3 : dGet ks xs k with
    | none => rw [e3] at e2; cases e2
    | some p =>
      rw [e3] at e2 g
      cases e2
      obtain ⟨w, h1, h2⟩ := g
      exact .inr ⟨a, w, rfl, by rw [ev', ← h1]; exact rd_dget hr, fin rfl h2⟩
  simp only [opIx] at e
  split at e
  · rename_i i
    have ey := repE_int ry
    split at e
    · rename_i xs
      obtain ⟨a, us, rfl, ha, ra, za⟩ := repE_tup rx
      cases e3 : atI xs i with
      | none => rw [e3] at e; cases e
      | some p =>
        rw [e3] at e; cases e
        obtain ⟨w, h1, h2⟩ := atI_rep ra e3
        exact .inl (.inr (.inl ⟨a, us, i, w, rfl, ey, ha, h1, fin rfl h2⟩))
    · rename_i z
      split at e
      · rename_i hz
        cases e3 : atI z.cps.toList i with
        | none => rw [e3] at e; cases e
        | some c =>
          rw [e3] at e; cases e
          exact .inl (.inr (.inr ⟨z, i, c, repE_str rx, ey, hz, e3, fin rfl (by simp only [RepV])⟩))
      · cases e
    · split at e
      · rename_i xs e1
        obtain ⟨a, us, rfl, ha, ra, za⟩ := lst_of R rx e1
        cases e3 : atI xs i with
        | none => rw [e3] at e; cases e
        | some p =>
          rw [e3] at e; cases e
          obtain ⟨w, h1, h2⟩ := atI_rep ra e3
          exact .inl (.inl ⟨a, us, i, w, rfl, ey, ha, h1, fin rfl h2⟩)
      · split at e
        · rename_i e1
          exact dict e1 e ey
        · cases e
  · rename_i t
    split at e
    · rename_i e1
      exact dict e1 e (repE_str ry)
    · cases e
  · cases e
theorem fe_ix (A : Amb Z X W N sc fs k) {a b : Expr} {f g : Sm EV} {pos : Pos} (ha : FE X E W a f) (hb : FE X E W b g) (hs : PlainIx b := by exact fun _ _ => rfl) : FE X E W (.Subscript a b pos) (e2 opIx f g) :=
  ⟨PE.weak (pe_ix (ix_seq.or (ix_dict A.u1)) ha.pe hb.pe hs) fun _ _ _ h => tE_two opIx_ok h⟩

/-! ### slices -/
@[simp] def oNo : Sm (Option Int) := fun M => .ok none M
@[simp] def oSome (f : Sm EV) : Sm (Option Int) := fun M => (f M).bnd fun x M1 => match x with
  | .v (.int i) => .ok (some i) M1
  | _ => .bad
def tO (X : Cx) (E : Ent) (W : WX) (f : Sm (Option Int)) : TO := fun s H Q => ∃ G M, StRep X.K E G M s H ∧ OutP X E W s G M H (f M) fun _ _ H' b => Q b H'
structure FO (X : Cx) (E : Ent) (W : WX) (e : Option Expr) (f : Sm (Option Int)) : Prop where
  run : ∃ t, L2.PO X e t ∧ ∀ s H Q, tO X E W f s H Q → t s H Q
theorem fo_none : FO X E W none oNo := ⟨_, po_none, fun s H Q ⟨G, M, R, h⟩ => h.now R⟩
theorem fo_some {e : Expr} {f : Sm EV} (h : FE X E W e f) : FO X E W (some e) (oSome f) := by
  refine ⟨_, po_some h.pe, ?_⟩
  rintro s H Q ⟨G, M, R, h⟩
  refine tE_one R h fun G1 M1 H1 x u V1 R1 rx h1 => ?_
  split at h1
  · exact ⟨_, repE_int rx, OutP.now h1 R1⟩
  · exact False.elim h1
def cutP {α : Type} (xs : List α) (lo hi : Option Int) : List α := (xs.drop (HT.sIx xs.length 0 lo)).take (HT.sIx xs.length xs.length hi - HT.sIx xs.length 0 lo)
theorem cutP_rep {K : PySem.W.Frag} {G : Gh} {H : Hp} {xs : List PV} {us : List V} (r : RepVs K G H xs us) (lo hi : Option Int) : RepVs K G H (cutP xs lo hi) (cutV us lo hi) := by
  unfold cutP cutV
  rw [r.length]
  exact (r.drop _).take _
@[simp] def opSl (x : EV) (lo hi : Option Int) (M : Mem) : Option EV := match x with
  | .v (.tup xs) => some (.v (.tup (cutP xs lo hi)))
  | .v (.str z) => if z.length ≤ sizeLine then some (.v (.str (cutS z lo hi))) else none
  | x => match asLst M x with
    | some xs => some (.fr (.lst (cutP xs lo hi)))
    | none => none
@[simp] def eSl (f : Sm EV) (l h : Sm (Option Int)) : Sm EV := fun M => (f M).bnd fun x M1 => (l M1).bnd fun lo M2 => (h M2).bnd fun hi M3 => optR (opSl x lo hi M3) M3
theorem fe_slice {a : Expr} {lo hi : Option Expr} {f : Sm EV} {l h : Sm (Option Int)} {pos p2 : Pos} (ha : FE X E W a f) (hl : FO X E W lo l) (hh : FO X E W hi h) : FE X E W (.Subscript a (.Slice lo hi none p2) pos) (eSl f l h) := by
  obtain ⟨tl, pl, il⟩ := hl.run
  obtain ⟨th, ph, ih⟩ := hh.run
  refine ⟨PE.weak (pe_slice (sl_list.or (sl_tupA.or sl_str)) ha.pe pl ph) ?_⟩
  rintro s H Q ⟨G, M, R, h⟩
  refine tE_one R h fun G1 M1 H1 x u V1 R1 rx h1 => ?_
  refine il _ _ _ ⟨G1, M1, R1, h1.bnd.imp fun G2 M2 H2 lo V2 R2 h2 => ?_⟩
  refine ih _ _ _ ⟨G2, M2, R2, h2.bnd.imp fun G3 M3 H3 hi V3 R3 h3 => ?_⟩
  replace rx := (rx.evo V2).evo V3
  have V := (V1.trans V2).trans V3
  clear h1 h2
  cases e : opSl x lo hi M3 with
  | none => rw [e] at h3; exact False.elim h3
  | some ev =>
    rw [e] at h3
    simp only [opSl] at e
    split at e
    · rename_i xs
      cases e
      obtain ⟨a, us, rfl, ha, ra, za⟩ := repE_tup rx
      refine .inr (.inl ⟨a, us, rfl, ha, fun hw => ?_, fun hw p hp => ?_⟩)
      · refine OutP.now h3 R3 _ ?_
        have e2 : cutP xs lo hi = xs := by
          unfold cutP
          rw [ra.length, hw.1, hw.2, ← ra.length]
          simp
        rw [e2]
        exact rx
      · obtain ⟨V4, R4, r4⟩ := rep_newtup R3 (cutP_rep ra lo hi) (Nat.le_trans (cutV_length _ _ _) za) hp
        exact h3 _ _ V4 R4 _ r4
    · split at e
      · rename_i z hz
        cases e
        exact .inr (.inr ⟨z, repE_str rx, hz, OutP.now h3 R3 _ (show RepV X.K G3 H3 (.str (cutS z lo hi)) _ by simp only [RepV])⟩)
      · cases e
    · split at e
      · rename_i xs e1
        cases e
        obtain ⟨a, us, rfl, ha, ra, za⟩ := lst_of R3 rx e1
        refine .inl ⟨a, us, rfl, ha, fun p hp => ?_⟩
        obtain ⟨V4, R4, r4⟩ := rep_newlst (H0 := H) R3 V.dom (cutP_rep ra lo hi) (Nat.le_trans (cutV_length _ _ _) za) hp
        exact h3 _ _ V4 R4 _ r4
      · cases e
end
end HF

end
section
set_option Elab.async false
set_option linter.all false
set_option maxRecDepth 20000
set_option autoImplicit false
/-! HF6: statements, targets, loops, a def by its body, the call of a def. -/
namespace HF
open PySem PySem.Spec PyProof.Rows L2

/-- a statement's end -/
inductive SR where
  | nx (M : Mem)
  | ret (e : EV) (M : Mem)
  | brk (M : Mem)
  | cnt (M : Mem)
  | exn (c : Str) (M : Mem)
  | bad
abbrev Ss := Mem → SR
@[simp] def Res.st {α : Type} (x : Res α) (f : α → Mem → SR) : SR := match x with
  | .ok a M => f a M
  | .exn c M => .exn c M
  | .bad => .bad
@[simp] def SR.sq (x : SR) (f : Ss) : SR := match x with
  | .nx M => f M
  | .ret e M => .ret e M
  | .brk M => .brk M
  | .cnt M => .cnt M
  | .exn c M => .exn c M
  | .bad => .bad
section
variable (X : Cx) (E : Ent) (W : WX)
def SOut (D : Ends) (G : Gh) (H : Hp) (r : SR) : Prop := match r with
  | .nx M' => ∀ G' s' H', Ext G H G' H' → StRep X.K E G' M' s' H' → D.nx s' H'
  | .ret e M' => ∀ G' s' H' u, StRep X.K E G' M' s' H' → RepE X.K E E.H G' M' s' H' e u → D.rt u H'
  | .brk M' => ∀ G' s' H', Ext G H G' H' → StRep X.K E G' M' s' H' → D.bk s' H'
  | .cnt M' => ∀ G' s' H', Ext G H G' H' → StRep X.K E G' M' s' H' → D.ct s' H'
  | .exn c M' => ∀ G' s' H' C, Ext G H G' H' → StRep X.K E G' M' s' H' → X.mg c = some (.ref C) → W (.ref C) none s' H'
  | .bad => False
def tS (f : Ss) : TS := fun D s H => ∃ G M, StRep X.K E G M s H ∧ SOut X E W D G H (f M)
structure FS (st : Stmt) (f : Ss) : Prop where
  ps : PS X st (tS X E W f)
structure FSs (st : List Stmt) (f : Ss) : Prop where
  ps : PSs X st (tS X E W f)
end
section
variable {X : Cx} {E : Ent} {W : WX} {N : List Str} {sc : Scope} {fs : Str → Bool} {k : Nat} {Z : Wd}
theorem SOut.nxt {D : Ends} {M : Mem} {G : Gh} {H : Hp} (h : SOut X E W D G H (.nx M)) {s : L2.St} (R : StRep X.K E G M s H) : D.nx s H := h G s H (Ext.refl _ _) R
/-- from a later place -/
theorem SOut.late {D : Ends} {r : SR} {G G1 : Gh} {H H1 : Hp} (h : SOut X E W D G H r) (x : Ext G H G1 H1) : SOut X E W D G1 H1 r := by
  cases r with
  | nx M1 => exact fun G' s' H' x' R => h G' s' H' (x.trans x') R
  | ret e M1 => exact h
  | brk M1 => exact fun G' s' H' x' R => h G' s' H' (x.trans x') R
  | cnt M1 => exact fun G' s' H' x' R => h G' s' H' (x.trans x') R
  | exn c M1 => exact fun G' s' H' C x' R m => h G' s' H' C (x.trans x') R m
  | bad => exact h
/-- an expression's run within a statement -/
theorem OutP.st {α : Type} {D : Ends} {s : L2.St} {G : Gh} {M : Mem} {H : Hp} {r : Res α} {f : α → Mem → SR} (h : SOut X E W D G H (r.st f)) : OutP X E W s G M H r fun G1 M1 H1 a => SOut X E W D G1 H1 (f a M1) := by
  cases r with
  | ok a M1 => exact fun G' H' V R => SOut.late h V.ext
  | exn c M1 => exact fun G' H' C x R m => h G' s H' C x R m
  | bad => exact h
theorem tE_st {D : Ends} {f : Sm EV} {g : EV → Mem → SR} {s : L2.St} {G : Gh} {M : Mem} {H : Hp} {Q : V → Hp → Prop} (R : StRep X.K E G M s H) (h : SOut X E W D G H ((f M).st g))
    (i : ∀ G1 M1 H1 a u, Evo s G M H G1 M1 H1 → StRep X.K E G1 M1 s H1 → RepE X.K E H G1 M1 s H1 a u → SOut X E W D G1 H1 (g a M1) → Q u H1) : tE X E W f s H Q :=
  ⟨G, M, R, (OutP.st h).imp fun G1 M1 H1 a V1 R1 q u ru => i G1 M1 H1 a u V1 R1 ru q⟩
theorem tP_st {D : Ends} {f : Sm PV} {g : PV → Mem → SR} {s : L2.St} {G : Gh} {M : Mem} {H : Hp} {Q : V → Hp → Prop} (R : StRep X.K E G M s H) (h : SOut X E W D G H ((f M).st g))
    (i : ∀ G1 M1 H1 a u, Evo s G M H G1 M1 H1 → StRep X.K E G1 M1 s H1 → RepV X.K G1 H1 a u → SOut X E W D G1 H1 (g a M1) → Q u H1) : tP X E W f s H Q :=
  ⟨G, M, R, (OutP.st h).imp fun G1 M1 H1 a V1 R1 q u ru => i G1 M1 H1 a u V1 R1 ru q⟩
theorem tB_st {D : Ends} {f : Sm Bool} {g : Bool → Mem → SR} {s : L2.St} {G : Gh} {M : Mem} {H : Hp} {Q : Bool → Hp → Prop} (R : StRep X.K E G M s H) (h : SOut X E W D G H ((f M).st g))
    (i : ∀ G1 M1 H1 a, Evo s G M H G1 M1 H1 → StRep X.K E G1 M1 s H1 → SOut X E W D G1 H1 (g a M1) → Q a H1) : tB' X E W f s H Q :=
  ⟨G, M, R, (OutP.st h).imp fun G1 M1 H1 a V1 R1 q => i G1 M1 H1 a V1 R1 q⟩

/-! ### rows of statements -/
@[simp] def sNop : Ss := fun M => .nx M
@[simp] def sSeq (f g : Ss) : Ss := fun M => (f M).sq g
theorem fss_nil : FSs X E W [] sNop := by
  refine ⟨PSs.weak pss_nil ?_⟩
  rintro D s H ⟨G, M, R, h⟩
  exact h.nxt R
theorem SOut.sq {D : Ends} {r : SR} {g : Ss} {G : Gh} {H : Hp} (h : SOut X E W D G H (r.sq g)) : SOut X E W { D with nx := tS X E W g D } G H r := by
  cases r with
  | nx M1 => exact fun G' s' H' x R => ⟨G', M1, R, SOut.late h x⟩
  | ret e M1 => exact h
  | brk M1 => exact h
  | cnt M1 => exact h
  | exn c M1 => exact h
  | bad => exact h
theorem fss_cons {st : Stmt} {rest : List Stmt} {f g : Ss} (h : FS X E W st f) (h' : FSs X E W rest g) : FSs X E W (st :: rest) (sSeq f g) := by
  refine ⟨PSs.weak (pss_cons h.ps h'.ps) ?_⟩
  rintro D s H ⟨G, M, R, hh⟩
  exact ⟨G, M, R, hh.sq⟩
theorem fss_one {st : Stmt} {f : Ss} (h : FS X E W st f) : FSs X E W [st] f := ⟨pss_one h.ps⟩
/-- slots that nothing asks any more -/
@[simp] def forget (ws : List Nat) (M : Mem) : Mem := ⟨ws.foldl (fun r i => r.set i none) M.r, M.h⟩
theorem StRep.forget {K : PySem.W.Frag} {G : Gh} {M : Mem} {s : L2.St} {H : Hp} (R : StRep K E G M s H) (ws : List Nat) : StRep K E G (HF.forget ws M) s H := by
  obtain ⟨r, h⟩ := M
  show StRep K E G ⟨ws.foldl (fun r i => r.set i none) r, h⟩ s H
  induction ws generalizing r with
  | nil => exact R
  | cons w ws ih =>
    refine ih (r.set w none) ?_
    refine R.slots (by simp) fun i x e => ?_
    by_cases z : w = i
    · subst z
      by_cases lt : w < r.length
      · rw [List.getElem?_set_self lt] at e; cases e
      · rw [List.getElem?_eq_none (by simpa using lt)] at e; cases e
    · rw [List.getElem?_set_ne z] at e; exact .inl e
@[simp] def sFor (ws : List Nat) (f : Ss) : Ss := fun M => (f M).sq fun M1 => .nx (forget ws M1)
theorem fs_forget {st : Stmt} {f : Ss} (ws : List Nat) (h : FS X E W st f) : FS X E W st (sFor ws f) := by
  refine ⟨PS.weak h.ps ?_⟩
  rintro D s H ⟨G, M, R, hh⟩
  refine ⟨G, M, R, ?_⟩
  simp only [sFor] at hh
  generalize f M = q at hh
  cases q with
  | nx M1 => exact fun G' s' H' x R' => hh G' s' H' x (R'.forget ws)
  | ret e M1 => exact hh
  | brk M1 => exact hh
  | cnt M1 => exact hh
  | exn c M1 => exact hh
  | bad => exact hh

/-! ### stores -/
theorem StRep.setV {K : PySem.W.Frag} {G : Gh} {M : Mem} {s : L2.St} {H : Hp} (R : StRep K E G M s H) (i : Nat) {p : PV} {u : V} (r : RepV K G H p u) : StRep K E G ⟨M.r.set i (some (.v p)), M.h⟩ (s.set i (some u)) H := by
  have lk : ∀ (j : Nat) (x : LV), (M.r.set i (some (.v p)))[j]? = some (some x) → (j = i ∧ x = .v p ∧ (s.set i (some u))[j]? = some (some u)) ∨ (M.r[j]? = some (some x) ∧ (s.set i (some u))[j]? = s[j]?) := fun j x e => by
    by_cases z : i = j
    · subst z
      by_cases lt : i < M.r.length
      · rw [List.getElem?_set_self lt] at e; cases e
        exact .inl ⟨rfl, rfl, List.getElem?_set_self (by rw [← R.len]; exact lt)⟩
      · rw [List.getElem?_eq_none (by simpa using lt)] at e; cases e
    · rw [List.getElem?_set_ne z] at e
      exact .inr ⟨e, List.getElem?_set_ne z⟩
  refine ⟨R.post, R.hp, by simp [R.len], fun j q e => ?_, fun j o e => ?_, fun j l o o' a e e' h h' => ?_⟩
  · rcases lk j _ e with ⟨_, z, z'⟩ | ⟨z, z'⟩
    · cases z; exact ⟨u, z', r⟩
    · rw [z']; exact R.slot j q z
  · rcases lk j _ e with ⟨_, z, z'⟩ | ⟨z, z'⟩
    · cases z
    · rw [z']; exact R.own j o z
  · rcases lk j _ e with ⟨_, z, z'⟩ | ⟨z, z'⟩
    · cases z
    · rcases lk l _ e' with ⟨_, y, y'⟩ | ⟨y, y'⟩
      · cases y
      · rw [z'] at h; rw [y'] at h'; exact R.sep j l o o' a z y h h'
theorem StRep.setO {K : PySem.W.Frag} {G : Gh} {M : Mem} {s : L2.St} {H : Hp} (R : StRep K E G M s H) (i : Nat) {o : PO} {a : Addr} {w : HO} (h1 : H a = some w) (ro : RepO K G H o w) (n : E.H a = none) (nf : ¬ G.F a) (nl : a ∉ G.al) (no : ¬ OwnAt M.r s a) :
    StRep K E G ⟨M.r.set i (some (.own o)), M.h⟩ (s.set i (some (.ref a))) H := by
  have lk : ∀ (j : Nat) (x : LV), (M.r.set i (some (.own o)))[j]? = some (some x) → (j = i ∧ x = .own o ∧ (s.set i (some (V.ref a)))[j]? = some (some (V.ref a))) ∨ (j ≠ i ∧ M.r[j]? = some (some x) ∧ (s.set i (some (V.ref a)))[j]? = s[j]?) := fun j x e => by
    by_cases z : i = j
    · subst z
      by_cases lt : i < M.r.length
      · rw [List.getElem?_set_self lt] at e; cases e
        exact .inl ⟨rfl, rfl, List.getElem?_set_self (by rw [← R.len]; exact lt)⟩
      · rw [List.getElem?_eq_none (by simpa using lt)] at e; cases e
    · rw [List.getElem?_set_ne z] at e
      exact .inr ⟨fun y => z y.symm, e, List.getElem?_set_ne z⟩
  refine ⟨R.post, R.hp, by simp [R.len], fun j q e => ?_, fun j o2 e => ?_, fun j l o2 o' b e e' h h' => ?_⟩
  · rcases lk j _ e with ⟨_, z, z'⟩ | ⟨_, z, z'⟩
    · cases z
    · rw [z']; exact R.slot j q z
  · rcases lk j _ e with ⟨_, z, z'⟩ | ⟨_, z, z'⟩
    · cases z; exact ⟨a, w, z', h1, ro, n, nf, nl⟩
    · rw [z']; exact R.own j o2 z
  · rcases lk j _ e with ⟨zi, z, z'⟩ | ⟨zi, z, z'⟩
    · rcases lk l _ e' with ⟨yi, y, y'⟩ | ⟨yi, y, y'⟩
      · rw [zi, yi]
      · rw [z'] at h; cases h
        rw [y'] at h'
        exact absurd ⟨l, o', y, h'⟩ no
    · rcases lk l _ e' with ⟨yi, y, y'⟩ | ⟨yi, y, y'⟩
      · rw [y'] at h'; cases h'
        rw [z'] at h
        exact absurd ⟨j, o2, z, h⟩ no
      · rw [z'] at h; rw [y'] at h'; exact R.sep j l o2 o' b z y h h'
def locB (sc : Scope) (fs : Str → Bool) (x : Str) : Bool := match sc.names.lookup x with
  | some .local => true
  | some .cell => fs x
  | _ => false
theorem locB_loc {x : Str} (h : locB sc fs x = true) : Loc sc x := by
  unfold locB at h
  split at h
  · rename_i e; exact .inl e
  · rename_i e; exact .inr e
  · cases h
theorem locB_fn (A : Amb Z X W N sc fs k) {x : Str} (h : locB sc fs x = true) : X.fn x = true ∨ X.env.scope.names.lookup x = some .local := by
  unfold locB at h
  split at h
  · rename_i e; exact .inr (by rw [A.hs]; exact e)
  · exact .inl (by rw [A.fn]; exact h)
  · cases h
/-- name = value -/
@[simp] def sSet (i : Nat) (f : Sm PV) : Ss := fun M => (f M).st fun p M1 => .nx ⟨M1.r.set i (some (.v p)), M1.h⟩
/-- name = a new thing, to be this name's alone -/
@[simp] def sOwn (i : Nat) (f : Sm EV) : Ss := fun M => (f M).st fun e M1 => match e with
  | .fr o => .nx ⟨M1.r.set i (some (.own o)), M1.h⟩
  | .v p => .nx ⟨M1.r.set i (some (.v p)), M1.h⟩
  | .sl _ => .bad
theorem set_tP {i : Nat} {f : Sm PV} {D : Ends} {s : L2.St} {H : Hp} (h : tS X E W (sSet i f) D s H) : tAsg (tP X E W f) (gName i) D s H := by
  obtain ⟨G, M, R, h⟩ := h
  exact tP_st R h fun G1 M1 H1 p u V1 R1 rp q => q.nxt (R1.setV i rp)
theorem set_tE {i : Nat} {f : Sm EV} {D : Ends} {s : L2.St} {H : Hp} (h : tS X E W (sOwn i f) D s H) : tAsg (tE X E W f) (gName i) D s H := by
  obtain ⟨G, M, R, h⟩ := h
  refine tE_st R h fun G1 M1 H1 e u V1 R1 re q => ?_
  cases e with
  | v p => exact SOut.nxt q (R1.setV i re)
  | fr o =>
    obtain ⟨a, w, rfl, h1, ro, n, nf, nl, no, _⟩ := re
    exact SOut.nxt q (R1.setO i h1 ro n nf nl no)
  | sl j => exact False.elim q
section
variable {e : Expr} {f : Sm EV} {pos pos' : Pos} {x : Str} {i : Nat}
theorem fs_set (A : Amb Z X W N sc fs k) {f : Sm PV} (hN : N[i]? = some x) (hl : locB sc fs x = true) (he : FP X E W e f) (hs : swapsWith e (some (.Name x pos')) pos.line X.env = pure false := by rfl) : FS X E W (.Assign [.Name x pos'] e pos) (sSet i f) :=
  ⟨PS.weak (ps_set (by rw [A.hN]; exact A.nd) (by rw [A.hN]; exact hN) (by rw [A.hs]; exact locB_loc hl) he.pe hs (locB_fn A hl)) fun _ _ _ h => set_tP h⟩
theorem fs_own (A : Amb Z X W N sc fs k) (hN : N[i]? = some x) (hl : locB sc fs x = true) (he : FE X E W e f) (hs : swapsWith e (some (.Name x pos')) pos.line X.env = pure false := by rfl) : FS X E W (.Assign [.Name x pos'] e pos) (sOwn i f) :=
  ⟨PS.weak (ps_set (by rw [A.hN]; exact A.nd) (by rw [A.hN]; exact hN) (by rw [A.hs]; exact locB_loc hl) he.pe hs (locB_fn A hl)) fun _ _ _ h => set_tE h⟩
end

/-! ### targets: a name, a tuple of names -/
inductive Pat where
  | nm (i : Nat)
  | tp (is : List Nat)
def gNames : List Nat → TGs
  | [] => gNil
  | i :: is => gCons (gName i) (gNames is)
def gPat (K : PySem.W.Frag) : Pat → TG
  | .nm i => gName i
  | .tp is => gTup K is.length (gNames is)
def Pat.slots : Pat → List Nat
  | .nm i => [i]
  | .tp is => is
structure FG (X : Cx) (tg : Expr) (pt : Pat) : Prop where
  pg : PG X tg (gPat X.K pt)
structure FGs (X : Cx) (tgs : List Expr) (is : List Nat) : Prop where
  pg : PGs X tgs (gNames is)
  len : tgs.length = is.length
@[simp] def setAll : List Nat → List PV → List (Option LV) → Option (List (Option LV))
  | [], [], r => some r
  | i :: is, p :: ps, r => setAll is ps (r.set i (some (.v p)))
  | _, _, _ => none
@[simp] def asgPat : Pat → PV → List (Option LV) → Option (List (Option LV))
  | .nm i, p, r => some (r.set i (some (.v p)))
  | .tp is, .tup ps, r => setAll is ps r
  | _, _, _ => none
section
variable {e : Expr} {es : List Expr} {pos : Pos} {x : Str} {i : Nat} {is : List Nat}
theorem fg_name (A : Amb Z X W N sc fs k) (hN : N[i]? = some x) (hl : locB sc fs x = true) : FG X (.Name x pos) (.nm i) := ⟨pg_name (by rw [A.hN]; exact A.nd) (by rw [A.hN]; exact hN) (by rw [A.hs]; exact locB_loc hl) (locB_fn A hl)⟩
theorem fgs_nil : FGs X [] [] := ⟨pgs_nil, rfl⟩
theorem fgs_cons (h : FG X e (.nm i)) (h' : FGs X es is) (hs : (assignEach (e :: es) X.env).map (·.2) = assign e X.env :: (assignEach es X.env).map (·.2) := by rfl) : FGs X (e :: es) (i :: is) := ⟨pgs_cons h.pg h'.pg hs, by simp [h'.len]⟩
theorem fg_tup (A : Amb Z X W N sc fs k) {kk} (h : FGs X es is) (hn : (assignEach es X.env).length = is.length := by rfl) (hst : (assignEach es X.env).findIdx? (·.1) = none := by rfl) : FG X (.Tuple es kk pos) (.tp is) := ⟨pg_tup A.calm h.pg hn hst⟩
end
theorem gNames_ok {G : Gh} {H : Hp} {K : PySem.W.Frag} : ∀ {is : List Nat} {ps : List PV} {us : List V} {M : Mem} {s : L2.St} {r' : List (Option LV)}, StRep K E G M s H → RepVs K G H ps us → setAll is ps M.r = some r' →
    ∃ s', StRep K E G ⟨r', M.h⟩ s' H ∧ (∀ Q : L2.St → Hp → Prop, Q s' H → gNames is us s H Q) ∧ ∀ j, j ∉ is → s'[j]? = s[j]?
  | [], ps, us, M, s, r', R, r, e => by
    cases ps with
    | cons p ps => cases e
    | nil =>
      cases e
      rw [RepVs.nil_iff.mp r]
      exact ⟨s, R, fun Q q => ⟨rfl, q⟩, fun j _ => rfl⟩
  | i :: is, ps, us, M, s, r', R, r, e => by
    cases ps with
    | nil => cases e
    | cons p ps =>
      obtain ⟨u, ws, rfl, rp, rs⟩ := RepVs.cons_iff.mp r
      obtain ⟨s', R', h1, h2⟩ := gNames_ok (R.setV i rp) rs e
      exact ⟨s', R', fun Q q => ⟨u, ws, rfl, h1 Q q⟩, fun j hj => by
        simp only [List.mem_cons, not_or] at hj
        rw [h2 j hj.2, List.getElem?_set_ne (fun z => hj.1 z.symm)]⟩
theorem setAll_len : ∀ {is : List Nat} {ps : List PV} {r r' : List (Option LV)}, setAll is ps r = some r' → is.length = ps.length
  | [], [], _, _, _ => rfl
  | i :: is, p :: ps, r, r', e => by simp [setAll_len (is := is) (ps := ps) e]
  | [], p :: ps, _, _, e => by cases e
  | i :: is, [], _, _, e => by cases e
theorem gPat_ok {G : Gh} {H : Hp} {K : PySem.W.Frag} {pt : Pat} {p : PV} {u : V} {M : Mem} {s : L2.St} {r' : List (Option LV)} (R : StRep K E G M s H) (r : RepV K G H p u) (e : asgPat pt p M.r = some r') :
    ∃ s', StRep K E G ⟨r', M.h⟩ s' H ∧ (∀ Q : L2.St → Hp → Prop, Q s' H → gPat K pt u s H Q) ∧ ∀ j, j ∉ pt.slots → s'[j]? = s[j]? := by
  cases pt with
  | nm i =>
    cases e
    exact ⟨_, R.setV i r, fun Q q => q, fun j hj => List.getElem?_set_ne (fun z => hj (by simp [Pat.slots, z]))⟩
  | tp is =>
    cases p with
    | tup ps =>
      obtain ⟨a, us, rfl, ht, rs, z⟩ := tup_of r
      obtain ⟨s', R', h1, h2⟩ := gNames_ok R rs e
      exact ⟨s', R', fun Q q => ⟨a, us, rfl, ht, by rw [← rs.length, ← setAll_len e], h1 Q q⟩, h2⟩
    | _ => cases e
/-- a, b = value -/
@[simp] def sPat (pt : Pat) (f : Sm PV) : Ss := fun M => (f M).st fun p M1 => match asgPat pt p M1.r with
  | some r' => .nx ⟨r', M1.h⟩
  | none => .bad
theorem fs_pat {tg e : Expr} {pt : Pat} {f : Sm PV} {pos : Pos} (hg : FG X tg pt) (he : FP X E W e f) (hs : swapsWithSole [tg] e pos.line X.env = pure false := by rfl) (hw : swappedStores [tg] e X.env = pure none := by rfl)
    (h1 : (assignEach [tg] X.env).map (·.2) = [assign tg X.env] := by rfl) : FS X E W (.Assign [tg] e pos) (sPat pt f) := by
  refine ⟨PS.weak (ps_asg he.pe hg.pg hs hw h1) ?_⟩
  rintro D s H ⟨G, M, R, h⟩
  refine tP_st R h fun G1 M1 H1 p u V1 R1 rp q => ?_
  cases e1 : asgPat pt p M1.r with
  | none => simp only [e1] at q; exact False.elim q
  | some r' =>
    simp only [e1] at q
    obtain ⟨s', R', h1, _⟩ := gPat_ok R1 rp e1
    exact h1 _ (q.nxt R')

/-! ### return, if, expressions, pass -/
@[simp] def sRet (f : Sm EV) : Ss := fun M => (f M).st fun e M1 => match e with
  | .sl i => match slotAt M1 i with
    | some (.own o) => .ret (.fr o) ⟨M1.r.set i none, M1.h⟩
    | _ => .bad
  | e => .ret e M1
theorem sl_free {K : PySem.W.Frag} {G : Gh} {M : Mem} {s : L2.St} {H : Hp} {i : Nat} {o : PO} (R : StRep K E G M s H) (ei : M.r[i]? = some (some (.own o))) :
    StRep K E G ⟨M.r.set i none, M.h⟩ s H ∧ ∀ a, s[i]? = some (some (.ref a)) → ¬ OwnAt (M.r.set i none) s a := by
  have lt : i < M.r.length := (List.getElem?_eq_some_iff.mp ei).1
  refine ⟨R.slots (by simp) fun j x ej => ?_, fun a e ⟨j, o2, e1, e2⟩ => ?_⟩
  · by_cases zj : i = j
    · subst zj; rw [List.getElem?_set_self lt] at ej; cases ej
    · rw [List.getElem?_set_ne zj] at ej; exact .inl ej
  · by_cases zj : i = j
    · subst zj; rw [List.getElem?_set_self lt] at e1; cases e1
    · rw [List.getElem?_set_ne zj] at e1
      exact zj (R.sep i j o o2 a ei e1 e e2)
section
variable {e : Expr} {f : Sm EV} {pos : Pos}
theorem fs_ret (he : FE X E W e f) : FS X E W (.Return (some e) pos) (sRet f) := by
  refine ⟨PS.weak (ps_ret he.pe) ?_⟩
  rintro D s H ⟨G, M, R, h⟩
  refine tE_st R h fun G1 M1 H1 x u V1 R1 rx q => ?_
  cases x with
  | v p => exact q G1 s H1 u R1 rx
  | fr o =>
    have hd : ∀ a, H a = none → E.H a = none := fun a z => R.post.dom a z
    exact q G1 s H1 u R1 (rx.old hd)
  | sl i =>
    simp only at q
    split at q
    · rename_i o eo
      have ei := slotAt_some eo
      obtain ⟨a, w, e1, h1, ro, n, nf, nl⟩ := R1.own i o ei
      have rx : s[i]? = some (some u) := rx
      rw [e1] at rx; cases rx
      obtain ⟨Rf, no⟩ := sl_free R1 ei
      exact q G1 s H1 _ Rf ⟨a, w, rfl, h1, ro, n, nf, nl, no a e1, n⟩
    · exact False.elim q
theorem fs_retN : FS X E W (.Return none pos) (fun M => .ret (.v .non) M) := by
  refine ⟨PS.weak ps_retN ?_⟩
  rintro D s H ⟨G, M, R, h⟩
  exact h G s H .non R (show RepV X.K G H .non _ by simp only [RepV])
@[simp] def sIf (c : Sm Bool) (f g : Ss) : Ss := fun M => (c M).st fun b M1 => if b = true then f M1 else g M1
theorem fs_if {c : Expr} {a b : List Stmt} {t : Sm Bool} {f g : Ss} (hc : FT X E W c t) (ha : FSs X E W a f) (hb : FSs X E W b g) : FS X E W (.If c a b pos) (sIf t f g) := by
  refine ⟨PS.weak (ps_if hc.pe ha.ps hb.ps) ?_⟩
  rintro D s H ⟨G, M, R, h⟩
  refine tB_st R h fun G1 M1 H1 b V1 R1 q => ?_
  cases b with
  | true =>
    rw [if_pos rfl] at q
    exact iteT ⟨G1, M1, R1, q⟩
  | false =>
    rw [if_neg Bool.false_ne_true] at q
    exact iteF ⟨G1, M1, R1, q⟩
@[simp] def sExp (f : Sm EV) : Ss := fun M => (f M).st fun _ M1 => .nx M1
theorem fs_exp (he : FE X E W e f) (hs : swapsWith e none pos.line X.env = pure false := by rfl) : FS X E W (.Expr e pos) (sExp f) := by
  refine ⟨PS.weak (ps_expr he.pe hs) ?_⟩
  rintro D s H ⟨G, M, R, h⟩
  exact tE_st R h fun G1 M1 H1 x u V1 R1 rx q => q.nxt R1
theorem fs_pass : FS X E W (.Pass pos) sNop := ⟨PS.weak ps_pass fun _ _ _ ⟨_, _, R, h⟩ => h.nxt R⟩
theorem fs_doc {x j pos'} : FS X E W (.Expr (.Constant (.str x) j pos) pos') sNop := ⟨PS.weak ps_doc fun _ _ _ ⟨_, _, R, h⟩ => h.nxt R⟩
theorem fs_brk : FS X E W (.Break pos) (fun M => .brk M) := ⟨PS.weak ps_break fun _ _ _ ⟨_, _, R, h⟩ => h _ _ _ (Ext.refl _ _) R⟩
theorem fs_cnt : FS X E W (.Continue pos) (fun M => .cnt M) := ⟨PS.weak ps_continue fun _ _ _ ⟨_, _, R, h⟩ => h _ _ _ (Ext.refl _ _) R⟩
end

/-! ### while -/
def whileL (c : Sm Bool) (b : Ss) (ws : List Nat) : Nat → Ss
  | 0, _ => .bad
  | n + 1, M => (c M).st fun t M1 => if t = true then (match b M1 with
      | .nx M2 => whileL c b ws n (forget ws M2)
      | .cnt M2 => whileL c b ws n (forget ws M2)
      | .brk M2 => .nx (forget ws M2)
      | r => r) else .nx M1
@[simp] def sWhile (c : Sm Bool) (b : Ss) (ws : List Nat) (n : Nat) : Ss := fun M => whileL c b ws n (forget ws M)
theorem fs_while (A : Amb Z X W N sc fs k) {c : Expr} {body : List Stmt} {t : Sm Bool} {b : Ss} {pos : Pos} (ws : List Nat) (n : Nat) (hc : FT X E W c t) (hb : FSs X E W body b) : FS X E W (.While c body [] pos) (sWhile t b ws n) := by
  refine ⟨PS.weak (ps_while A.po hc.pe hb.ps) ?_⟩
  rintro D s H ⟨G, M, R, h⟩
  refine ⟨fun m s H => ∃ G M, StRep X.K E G M s H ∧ SOut X E W D G H (whileL t b ws m M), ⟨n, G, _, R.forget ws, h⟩, ?_⟩
  rintro m s H ⟨G, M, R, h⟩
  cases m with
  | zero => exact False.elim h
  | succ m =>
    unfold whileL at h
    refine tB_st R h fun G1 M1 H1 t V1 R1 q => ?_
    cases t with
    | false =>
      rw [if_neg Bool.false_ne_true] at q
      exact iteF (q.nxt R1)
    | true =>
      rw [if_pos rfl] at q
      refine iteT ⟨fun s H => ∃ G M, StRep X.K E G M s H ∧ SOut X E W D G H (whileL t b ws m M), fun s' H' h' => ⟨m, Nat.lt_succ_self m, h'⟩, G1, M1, R1, ?_⟩
      generalize b M1 = r at q
      cases r with
      | nx M2 => exact fun G' s' H' x R' => ⟨G', _, R'.forget ws, SOut.late q x⟩
      | cnt M2 => exact fun G' s' H' x R' => ⟨G', _, R'.forget ws, SOut.late q x⟩
      | brk M2 => exact fun G' s' H' x R' => q G' s' H' x (R'.forget ws)
      | ret e M2 => exact q
      | exn c M2 => exact q
      | bad => exact q
end
end HF

end
section
set_option Elab.async false
set_option linter.all false
set_option maxRecDepth 20000
set_option autoImplicit false
/-! HF7: what is walked; for; list comprehensions. -/
namespace HF
open PySem PySem.Spec PyProof.Rows L2

/-- that what is walked stands as it stood -/
@[simp] def Chk (e : EV) (xs : List PV) (M : Mem) : Prop := match e with
  | .sl i => slotAt M i = some (.own (.lst xs))
  | .v (.ref r) => cellAt M r = some (.lst xs)
  | _ => True
def SameAt (e : EV) (s0 s : L2.St) : Prop := match e with
  | .sl i => s[i]? = s0[i]?
  | _ => True
structure Wk (K : PySem.W.Frag) (E : Ent) (e : EV) (xs : List PV) (s0 : L2.St) (J : It) (G0 : Gh) (H0 : Hp) : Prop where
  go : ∀ (i : Nat) G M s H, StRep K E G M s H → Ext G0 H0 G H → Chk e xs M → SameAt e s0 s → i < xs.length → J.go i H
  yld : ∀ (i : Nat) G M s H x H' p, StRep K E G M s H → Ext G0 H0 G H → Chk e xs M → SameAt e s0 s → xs[i]? = some p → J.yld i H x H' → ∃ G', Evo s G M H G' M H' ∧ StRep K E G' M s H' ∧ RepV K G' H' p x
  stop : ∀ (i : Nat) G M s H, StRep K E G M s H → Ext G0 H0 G H → Chk e xs M → SameAt e s0 s → xs.length ≤ i → J.stop i H
  sz : xs.length ≤ sizeLine
abbrev Src := EV × List PV
section
variable (X : Cx) (E : Ent) (W : WX)
def tI (f : Sm Src) : TI := fun s H R => ∃ G M, StRep X.K E G M s H ∧ OutP X E W s G M H (f M) fun G1 _ H1 sr => ∀ J, Wk X.K E sr.1 sr.2 s J G1 H1 → R J H1
structure FI (tg iter : Expr) (f : Sm Src) : Prop where
  pi : PI X tg iter (tI X E W f)
end
section
variable {X : Cx} {E : Ent} {W : WX} {N : List Str} {sc : Scope} {fs : Str → Bool} {k : Nat} {Z : Wd}
theorem PI.weak {tg iter : Expr} {t t' : TI} (h : PI X tg iter t) (i : ∀ s H R, t' s H R → t s H R) : PI X tg iter t' := ⟨fun pins s σ H R I q => h.run pins s σ H R I (i _ _ _ q)⟩
theorem PI.or {tg iter : Expr} {t t' : TI} (h : PI X tg iter t) (h' : PI X tg iter t') : PI X tg iter (fun s H R => t s H R ∨ t' s H R) :=
  ⟨fun pins s σ H R I q => q.elim (h.run pins s σ H R I) (h'.run pins s σ H R I)⟩

/-! ### sources -/
/-- a list that is seen in every later state -/
theorem wk_list {K : PySem.W.Frag} {e : EV} {xs : List PV} {s0 : L2.St} {G0 : Gh} {H0 : Hp} {a : Addr} (hz : xs.length ≤ sizeLine) (v : ∀ G M s H, StRep K E G M s H → Ext G0 H0 G H → Chk e xs M → SameAt e s0 s → ∃ us, SqL K H a us ∧ RepVs K G H xs us) : Wk K E e xs s0 (Itl K a) G0 H0 where
  go := fun i G M s H R x c sa lt => by
    obtain ⟨us, q, r⟩ := v G M s H R x c sa
    have lt' : i < us.length := by rw [← r.length]; exact lt
    exact ⟨us, us[i], q, List.getElem?_eq_getElem lt'⟩
  yld := fun i G M s H y H' p R x c sa e1 e2 => by
    obtain ⟨us, q, r⟩ := v G M s H R x c sa
    obtain ⟨rfl, h2⟩ := e2
    obtain ⟨w, h3, h4⟩ := r.get e1
    have := h2 us q
    rw [h3] at this; cases this
    exact ⟨G, Evo.refl _ _ _ _, R, h4⟩
  stop := fun i G M s H R x c sa le => by
    obtain ⟨us, q, r⟩ := v G M s H R x c sa
    exact ⟨us, q, by rw [← r.length]; exact le⟩
  sz := hz
theorem wk_tup {K : PySem.W.Frag} {e : EV} {xs : List PV} {s0 : L2.St} {G0 : Gh} {H0 : Hp} {a : Addr} (hz : xs.length ≤ sizeLine) (v : ∀ G M s H, StRep K E G M s H → Ext G0 H0 G H → ∃ us, SqT K H a us ∧ RepVs K G H xs us) : Wk K E e xs s0 (Itt K a) G0 H0 where
  go := fun i G M s H R x c sa lt => by
    obtain ⟨us, q, r⟩ := v G M s H R x
    have lt' : i < us.length := by rw [← r.length]; exact lt
    exact ⟨us, us[i], q, List.getElem?_eq_getElem lt'⟩
  yld := fun i G M s H y H' p R x c sa e1 e2 => by
    obtain ⟨us, q, r⟩ := v G M s H R x
    obtain ⟨rfl, h2⟩ := e2
    obtain ⟨w, h3, h4⟩ := r.get e1
    have := h2 us q
    rw [h3] at this; cases this
    exact ⟨G, Evo.refl _ _ _ _, R, h4⟩
  stop := fun i G M s H R x c sa le => by
    obtain ⟨us, q, r⟩ := v G M s H R x
    exact ⟨us, q, by rw [← r.length]; exact le⟩
  sz := hz
@[simp] def signsOf (z : Str) : List PV := z.cps.toList.map fun c => .str ⟨#[c]⟩
theorem wk_str {K : PySem.W.Frag} {e : EV} {z : Str} {s0 : L2.St} {G0 : Gh} {H0 : Hp} (hz : z.length ≤ sizeLine) : Wk K E e (signsOf z) s0 (Its z) G0 H0 where
  go := fun i G M s H R x c sa lt => by
    show i < z.cps.size
    simpa using lt
  yld := fun i G M s H y H' p R x c sa e1 e2 => by
    obtain ⟨rfl, c, h1, rfl⟩ := e2
    simp only [signsOf, List.getElem?_map, Array.getElem?_toList] at e1
    rw [h1] at e1; cases e1
    exact ⟨G, Evo.refl _ _ _ _, R, by simp only [RepV]⟩
  stop := fun i G M s H R x c sa le => by
    show z.cps.size ≤ i
    simpa using le
  sz := by simpa [Str.length] using hz
/-- of an expression: a list, a tuple, a text; a slot's own list stays the slot's -/
@[simp] def srcOf (f : Sm EV) : Sm Src := fun M => (f M).bnd fun e M1 => match e with
  | .v (.tup xs) => .ok (.v .non, xs) M1
  | .v (.str z) => if z.length ≤ sizeLine then .ok (.v .non, signsOf z) M1 else .bad
  | .v (.lst xs) => .ok (.v .non, xs) M1
  | .v (.rol xs) => .ok (.v .non, xs) M1
  | .fr (.lst xs) => .ok (.v .non, xs) M1
  | .v (.ref r) => match cellAt M1 r with
    | some (.lst xs) => .ok (.v (.ref r), xs) M1
    | _ => .bad
  | .sl i => match slotAt M1 i with
    | some (.own (.lst xs)) => .ok (.sl i, xs) M1
    | _ => .bad
  | _ => .bad
theorem fi_of {tg e : Expr} {f : Sm EV} (h : FE X E W e f) : FI X E W tg e (srcOf f) := by
  refine ⟨PI.weak (PI.or (pi_list h.pe) (PI.or (pi_tup h.pe) (pi_str h.pe))) ?_⟩
  rintro s H Q ⟨G, M, R, hh⟩
  cases hf : f M with
  | exn c M1 =>
    refine .inl ⟨G, M, R, ?_⟩
    rw [hf]
    simp only [srcOf, hf, Res.bnd] at hh
    exact hh
  | bad => simp only [srcOf, hf, Res.bnd] at hh; exact hh.elim
  | ok e M1 =>
    simp only [srcOf, hf, Res.bnd] at hh
    have lst : ∀ {e' : EV} {xs : List PV}, OutP X E W s G M H (.ok (e', xs) M1) (fun G1 _ H1 sr => ∀ J, Wk X.K E sr.1 sr.2 s J G1 H1 → Q J H1) →
        (∀ G1 H1 u, Evo s G M H G1 M1 H1 → StRep X.K E G1 M1 s H1 → RepE X.K E H G1 M1 s H1 e u → ∃ a us G2, u = .ref a ∧ SqL X.K H1 a us ∧ Evo s G M H G2 M1 H1 ∧ StRep X.K E G2 M1 s H1 ∧ Wk X.K E e' xs s (Itl X.K a) G2 H1) → iList X.K (tE X E W f) s H Q := fun {e' xs} h1 h2 => by
      refine ⟨G, M, R, ?_⟩
      rw [hf]
      intro G1 H1 V1 R1 u ru
      obtain ⟨a, us, G2, rfl, h3, V2, R2, w⟩ := h2 G1 H1 u V1 R1 ru
      exact ⟨a, rfl, ⟨us, h3⟩, h1 G2 H1 V2 R2 _ w⟩
    split at hh
    · rename_i xs
      refine .inr (.inl ⟨G, M, R, ?_⟩)
      rw [hf]
      intro G1 H1 V1 R1 u ru
      have ru : RepV X.K G1 H1 (.tup xs) u := ru
      simp only [RepV] at ru
      obtain ⟨a, us, rfl, ft, rr⟩ := ru
      exact ⟨a, rfl, ⟨us, ft.sq⟩, hh G1 H1 V1 R1 _ (wk_tup (by rw [rr.length]; exact ft.1) fun G' M' s' H' R' x => ⟨us, (ft.mono x).sq, RepVs.mono x _ _ rr⟩)⟩
    · rename_i z
      split at hh
      · rename_i hz
        refine .inr (.inr ⟨G, M, R, ?_⟩)
        rw [hf]
        intro G1 H1 V1 R1 u ru
        exact ⟨z, repE_str ru, hh G1 H1 V1 R1 _ (wk_str hz)⟩
      · exact hh.elim
    · rename_i xs
      refine .inl (lst hh fun G1 H1 u V1 R1 ru => ?_)
      have ru : RepV X.K G1 H1 (.lst xs) u := ru
      simp only [RepV] at ru
      obtain ⟨a, us, rfl, ⟨z, f1, f2⟩, rr⟩ := ru
      exact ⟨a, us, G1, rfl, .inl f2, V1, R1, wk_list (by rw [rr.length]; exact z) fun G' M' s' H' R' x _ _ => ⟨us, .inl (x.rd a _ f1 trivial f2), RepVs.mono x _ _ rr⟩⟩
    · rename_i xs
      refine .inl (lst hh fun G1 H1 u V1 R1 ru => ?_)
      have ru : RepV X.K G1 H1 (.rol xs) u := ru
      simp only [RepV] at ru
      obtain ⟨a, us, rfl, fl, rr⟩ := ru
      exact ⟨a, us, G1, rfl, fl.sq, V1, R1, wk_list (by rw [rr.length]; exact fl.1) fun G' M' s' H' R' x _ _ => ⟨us, (fl.mono x).sq, RepVs.mono x _ _ rr⟩⟩
    · rename_i xs
      refine .inl (lst hh fun G1 H1 u V1 R1 ru => ?_)
      obtain ⟨a, w, rfl, h1, ⟨us, rfl, z, rr⟩, n, nf, nl, no, ho⟩ := ru
      have x0 := G1.ext_fz H1 a
      exact ⟨a, us, G1.fz a, rfl, SqL.of h1, V1.frozen (.inl ho), R1.frozen h1 n nl no, wk_list (by rw [rr.length]; exact z) fun G' M' s' H' R' x _ _ => ⟨us, .inl (x.rd a _ (.inr rfl) trivial (.inl h1)), RepVs.mono (x0.trans x) _ _ rr⟩⟩
    · rename_i r
      split at hh
      · rename_i xs ec
        refine .inl (lst hh fun G1 H1 u V1 R1 ru => ?_)
        have ru : RepV X.K G1 H1 (.ref r) u := ru
        simp only [RepV] at ru
        obtain ⟨a, rfl, ha⟩ := ru
        obtain ⟨w, h1, us, rfl, z, rr⟩ := R1.cell ec ha
        exact ⟨a, us, G1, rfl, SqL.of h1, V1, R1, wk_list (by rw [rr.length]; exact z) fun G' M' s' H' R' x c _ => by
          obtain ⟨w, h1, us, rfl, z, rr⟩ := R'.cell (show cellAt M' r = some (.lst xs) from c) (x.al r a ha)
          exact ⟨us, SqL.of h1, rr⟩⟩
      · exact hh.elim
    · rename_i i
      split at hh
      · rename_i xs ec
        refine .inl (lst hh fun G1 H1 u V1 R1 ru => ?_)
        obtain ⟨a, w, e1, h1, ⟨us, rfl, z, rr⟩, _⟩ := R1.own i _ (slotAt_some ec)
        have ru : s[i]? = some (some u) := ru
        rw [e1] at ru; cases ru
        exact ⟨a, us, G1, rfl, SqL.of h1, V1, R1, wk_list (by rw [rr.length]; exact z) fun G' M' s' H' R' x c sa => by
          obtain ⟨b, w, e2, h1, ⟨us, rfl, z, rr⟩, _⟩ := R'.own i _ (slotAt_some (show slotAt M' i = some (.own (.lst xs)) from c))
          have sa : s'[i]? = s[i]? := sa
          rw [sa, e1] at e2; cases e2
          exact ⟨us, SqL.of h1, rr⟩⟩
      · exact hh.elim
    · exact hh.elim
/-! ranges -/
theorem wk_range {K : PySem.W.Frag} {s0 : L2.St} {lo : Int} {n : Nat} {G0 : Gh} {H0 : Hp} (hz : n ≤ sizeLine) : Wk K E (.v .non) ((List.range n).map fun (i : Nat) => .int (lo + (i : Int))) s0 (Itr lo n) G0 H0 where
  go := fun i G M s H R x _ sa lt => by
    show i < n
    simpa using lt
  yld := fun i G M s H y H' p R x _ sa e1 e2 => by
    obtain ⟨rfl, rfl⟩ := e2
    have lt : i < n := by
      have := (List.getElem?_eq_some_iff.mp e1).1
      simpa using this
    rw [List.getElem?_map, List.getElem?_range lt] at e1
    cases e1
    exact ⟨G, Evo.refl _ _ _ _, R, by simp only [RepV]⟩
  stop := fun i G M s H R x _ sa le => by
    show n ≤ i
    simpa using le
  sz := by simpa using hz
theorem wk_rangeC {K : PySem.W.Frag} {s0 : L2.St} {lo c : Int} {n : Nat} {G0 : Gh} {H0 : Hp} (hz : n ≤ sizeLine) : Wk K E (.v .non) ((List.range n).map fun (i : Nat) => .int (lo + (i : Int) * c)) s0 (Itc lo c n) G0 H0 where
  go := fun i G M s H R x _ sa lt => by
    show i < n
    simpa using lt
  yld := fun i G M s H y H' p R x _ sa e1 e2 => by
    obtain ⟨rfl, rfl⟩ := e2
    have lt : i < n := by
      have := (List.getElem?_eq_some_iff.mp e1).1
      simpa using this
    rw [List.getElem?_map, List.getElem?_range lt] at e1
    cases e1
    exact ⟨G, Evo.refl _ _ _ _, R, by simp only [RepV]⟩
  stop := fun i G M s H R x _ sa le => by
    show n ≤ i
    simpa using le
  sz := by simpa using hz
@[simp] def rgOk (i : Int) : Bool := decide (i.natAbs < 2 ^ 62)
theorem rgOk_of {i : Int} (h : rgOk i = true) : -(2 ^ 62) ≤ i ∧ i < 2 ^ 62 := by
  simp only [rgOk, decide_eq_true_eq] at h
  omega
@[simp] def srcR1 (f : Sm (List PV)) : Sm Src := fun M => (f M).bnd fun ps M1 => match ps with
  | [.int j] => if (rgOk j && decide (j.toNat ≤ sizeLine)) = true then .ok (.v .non, (List.range j.toNat).map fun (i : Nat) => .int (0 + (i : Int))) M1 else .bad
  | _ => .bad
@[simp] def srcR2 (f : Sm (List PV)) : Sm Src := fun M => (f M).bnd fun ps M1 => match ps with
  | [.int i, .int j] => if (rgOk i && rgOk j && decide ((j - i).toNat ≤ sizeLine)) = true then .ok (.v .non, (List.range (j - i).toNat).map fun (m : Nat) => .int (i + (m : Int))) M1 else .bad
  | _ => .bad
/-- how many turns a range upward has -/
def rgLen (i j c : Int) : Nat := (Builtin.Range.rangeSize i j c).toNat
def rg3Ok (i j c : Int) : Bool := rgOk i && rgOk j && decide (c ≠ 0) && decide (c.natAbs < 1073741824) && Builtin.Range.small i j c && decide (0 ≤ Builtin.Range.rangeSize i j c) && decide (rgLen i j c ≤ sizeLine)
@[simp] def srcR3 (f : Sm (List PV)) : Sm Src := fun M => (f M).bnd fun ps M1 => match ps with
  | [.int i, .int j, .int c] => if rg3Ok i j c = true then .ok (.v .non, (List.range (rgLen i j c)).map fun (m : Nat) => .int (i + (m : Int) * c)) M1 else .bad
  | _ => .bad
theorem ints_rep {K : PySem.W.Frag} {G : Gh} {H : Hp} {i : Int} {v : V} : RepV K G H (.int i) v ↔ v = .int i := by simp only [RepV]
section
variable {a b c : Expr} {tg : Expr} {p pos : Pos} {f : Sm (List PV)}
theorem fi_range1 (A : Amb Z X W N sc fs k) (hm : X.mg ("range" : Str) = none) (ha : FL X E W [a] f) (hg : sc.names.lookup ("range" : Str) = some .globalImplicit := by rfl) (hs : starEach [a] X.env = [(false, eval a X.env)] := by rfl) : FI X E W tg (.Call (.Name "range" p) [a] [] pos) (srcR1 f) := by
  refine ⟨PI.weak (pi_range1 (A.gl hg) hm ha.fa.pe hs) ?_⟩
  rintro s H Q ⟨G, M, R, h⟩
  refine ⟨G, M, R, h.bnd.imp fun G1 M1 H1 ps V1 R1 q us rr => ?_⟩
  split at q
  · rename_i j
    obtain ⟨u, ws, rfl, r1, r2⟩ := RepVs.cons_iff.mp rr
    rw [RepVs.nil_iff.mp r2, ints_rep.mp r1]
    split at q
    · rename_i z
      rw [Bool.and_eq_true] at z
      have zr := rgOk_of z.1
      refine ⟨j, rfl, zr.1, zr.2, ?_⟩
      exact q.now R1 _ (wk_range (of_decide_eq_true z.2))
    · exact False.elim q
  · exact False.elim q
theorem fi_range2 (A : Amb Z X W N sc fs k) (hm : X.mg ("range" : Str) = none) (ha : FL X E W [a, b] f) (hg : sc.names.lookup ("range" : Str) = some .globalImplicit := by rfl) (hs : starEach [a, b] X.env = [(false, eval a X.env), (false, eval b X.env)] := by rfl) (hs2 : starEach [b] X.env = [(false, eval b X.env)] := by rfl) :
    FI X E W tg (.Call (.Name "range" p) [a, b] [] pos) (srcR2 f) := by
  refine ⟨PI.weak (pi_range2 (A.gl hg) hm ha.fa.pe hs hs2) ?_⟩
  rintro s H Q ⟨G, M, R, h⟩
  refine ⟨G, M, R, h.bnd.imp fun G1 M1 H1 ps V1 R1 q us rr => ?_⟩
  split at q
  · rename_i i j
    obtain ⟨u, ws, rfl, r1, r2⟩ := RepVs.cons_iff.mp rr
    obtain ⟨u2, ws, rfl, r2, r3⟩ := RepVs.cons_iff.mp r2
    rw [RepVs.nil_iff.mp r3, ints_rep.mp r1, ints_rep.mp r2]
    split at q
    · rename_i z
      rw [Bool.and_eq_true, Bool.and_eq_true] at z
      have z1 := rgOk_of z.1.1
      have z2 := rgOk_of z.1.2
      exact ⟨i, j, rfl, ⟨z1.1, z1.2, z2.1, z2.2⟩, q.now R1 _ (wk_range (of_decide_eq_true z.2))⟩
    · exact False.elim q
  · exact False.elim q
theorem fi_range3 (A : Amb Z X W N sc fs k) (hm : X.mg ("range" : Str) = none) (ha : FL X E W [a, b, c] f) (hg : sc.names.lookup ("range" : Str) = some .globalImplicit := by rfl)
    (hs : starEach [a, b, c] X.env = (false, eval a X.env) :: starEach [b, c] X.env := by rfl) (hpl : (backTo pos (starEach [b, c] X.env)).any (fun x => x.1) = false := by rfl) :
    FI X E W tg (.Call (.Name "range" p) [a, b, c] [] pos) (srcR3 f) := by
  refine ⟨PI.weak (pi_range3 (A.gl hg) hm ha.fa.pe hs hpl) ?_⟩
  rintro s H Q ⟨G, M, R, h⟩
  refine ⟨G, M, R, h.bnd.imp fun G1 M1 H1 ps V1 R1 q us rr => ?_⟩
  split at q
  · rename_i i j c
    obtain ⟨u, ws, rfl, r1, r2⟩ := RepVs.cons_iff.mp rr
    obtain ⟨u2, ws, rfl, q2, r3⟩ := RepVs.cons_iff.mp r2
    obtain ⟨u3, ws, rfl, q3, r4⟩ := RepVs.cons_iff.mp r3
    rw [RepVs.nil_iff.mp r4, ints_rep.mp r1, ints_rep.mp q2, ints_rep.mp q3]
    split at q
    · rename_i z
      simp only [rg3Ok, Bool.and_eq_true, decide_eq_true_eq] at z
      obtain ⟨⟨⟨⟨⟨⟨z1, z2⟩, z3⟩, z4⟩, z5⟩, z6⟩, z7⟩ := z
      exact ⟨i, j, c, rgLen i j c, rfl, ⟨z3, z4, z5, by simp only [rgLen]; omega⟩, q.now R1 _ (wk_rangeC z7)⟩
    · exact False.elim q
  · exact False.elim q
end

/-! ### for -/
/-- what a turn comes to -/
inductive TR where
  | go (M : Mem)
  | out (r : SR)
@[simp] def forTurn (pt : Pat) (b : Ss) (ws : List Nat) (x : PV) (M : Mem) : TR := match asgPat pt x M.r with
  | none => .out .bad
  | some r' => match b ⟨r', M.h⟩ with
    | .nx M2 => .go (forget ws M2)
    | .cnt M2 => .go (forget ws M2)
    | .brk M2 => .out (.nx (forget ws M2))
    | z => .out z
open Classical in
noncomputable def forL (e : EV) (all : List PV) (pt : Pat) (b : Ss) (ws : List Nat) : List PV → Ss
  | [], M => if Chk e all M then .nx M else .bad
  | x :: r, M => if Chk e all M then (match forTurn pt b ws x M with
      | .go M' => forL e all pt b ws r M'
      | .out z => z) else .bad
@[simp] noncomputable def sForIn (f : Sm Src) (pt : Pat) (b : Ss) (ws : List Nat) : Ss := fun M => (f M).st fun sr M1 => forL sr.1 sr.2 pt b ws sr.2 (forget ws M1)
@[simp] def notSl (e : EV) : Bool := match e with
  | .sl _ => false
  | _ => true
theorem SameAt.of_not {e : EV} {s0 s : L2.St} (h : notSl e = true) : SameAt e s0 s := by
  cases e <;> first | trivial | cases h
/-- the source of a for: a slot's own list is frozen -/
@[simp] def srcP (f : Sm PV) : Sm Src := srcOf fun M => (f M).bnd fun p M1 => .ok (.v p) M1
theorem FP.fe {e : Expr} {f : Sm PV} (h : FP X E W e f) : FE X E W e (fun M => (f M).bnd fun p M1 => .ok (.v p) M1) := by
  refine ⟨PE.weak h.pe ?_⟩
  rintro s H Q ⟨G, M, R, hh⟩
  exact tP_one R hh fun G1 M1 H1 p u V1 R1 rp q => OutP.now q R1 u rp
structure NoSlot (f : Sm Src) : Prop where
  out : ∀ M a M', f M = .ok a M' → notSl a.1 = true
theorem srcP_ns {f : Sm PV} : NoSlot (srcP f) := by
  refine ⟨fun M a M' h => ?_⟩
  simp only [srcP, srcOf] at h
  cases hf : f M with
  | exn c M1 => rw [hf] at h; cases h
  | bad => rw [hf] at h; cases h
  | ok p M1 =>
    rw [hf] at h
    simp only [Res.bnd] at h
    cases p <;> simp only at h <;> first | (cases h; rfl) | (split at h <;> first | (cases h; rfl) | cases h) | cases h
theorem srcR1_ns {f : Sm (List PV)} : NoSlot (srcR1 f) := by
  refine ⟨fun M a M' h => ?_⟩
  simp only [srcR1] at h
  cases hf : f M with
  | exn c M1 => rw [hf] at h; cases h
  | bad => rw [hf] at h; cases h
  | ok p M1 =>
    rw [hf] at h
    simp only [Res.bnd] at h
    split at h
    · split at h
      · cases h; rfl
      · cases h
    · cases h
theorem srcR2_ns {f : Sm (List PV)} : NoSlot (srcR2 f) := by
  refine ⟨fun M a M' h => ?_⟩
  simp only [srcR2] at h
  cases hf : f M with
  | exn c M1 => rw [hf] at h; cases h
  | bad => rw [hf] at h; cases h
  | ok p M1 =>
    rw [hf] at h
    simp only [Res.bnd] at h
    split at h
    · split at h
      · cases h; rfl
      · cases h
    · cases h
theorem srcR3_ns {f : Sm (List PV)} : NoSlot (srcR3 f) := by
  refine ⟨fun M a M' h => ?_⟩
  simp only [srcR3] at h
  cases hf : f M with
  | exn c M1 => rw [hf] at h; cases h
  | bad => rw [hf] at h; cases h
  | ok p M1 =>
    rw [hf] at h
    simp only [Res.bnd] at h
    split at h
    · split at h
      · cases h; rfl
      · cases h
    · cases h
theorem fs_for (A : Amb Z X W N sc fs k) {tg iter : Expr} {body : List Stmt} {f : Sm Src} {pt : Pat} {b : Ss} {pos : Pos} (ws : List Nat) (hi : FI X E W tg iter f) (hn : NoSlot f) (hg : FG X tg pt) (hb : FSs X E W body b)
    (hs : ∀ x, foldedSetIterable iter X.env x = pure x := by intro _; rfl) : FS X E W (.For tg iter body [] pos) (sForIn f pt b ws) := by
  refine ⟨PS.weak (ps_for A.po A.calm hi.pi hg.pg hb.ps hs) ?_⟩
  rintro D s H ⟨G, M, R, h⟩
  refine ⟨G, M, R, ?_⟩
  cases hf : f M with
  | exn c M1 => simp only [sForIn, hf, Res.st] at h; exact fun G' H' C x R' m => h G' s H' C x R' m
  | bad => simp only [sForIn, hf, Res.st] at h; exact h
  | ok sr M1 =>
    obtain ⟨e, all⟩ := sr
    have ns := hn.out M _ M1 hf
    simp only [sForIn, hf, Res.st] at h
    intro G1 H1 V1 R1 J w
    have h1 : SOut X E W D G1 H1 (forL e all pt b ws all (forget ws M1)) := SOut.late h V1.ext
    refine ⟨fun i m s' H' => m = all.length - i ∧ i ≤ all.length ∧ ∃ G' M', StRep X.K E G' M' s' H' ∧ Ext G1 H1 G' H' ∧ SOut X E W D G' H' (forL e all pt b ws (all.drop i) M'), ⟨all.length, by simp, Nat.zero_le _, G1, _, R1.forget ws, Ext.refl _ _, by simpa using h1⟩, ?_⟩
    rintro i m s2 H2 ⟨rfl, hi, G2, M2, R2, x2, h2⟩
    by_cases lt : i < all.length
    · rw [List.drop_eq_getElem_cons lt] at h2
      unfold forL at h2
      split at h2
      · rename_i c
        refine .inr ⟨w.go i G2 M2 s2 H2 R2 x2 c (SameAt.of_not ns) lt, fun s' H' => ∃ G' M', StRep X.K E G' M' s' H' ∧ Ext G1 H1 G' H' ∧ SOut X E W D G' H' (forL e all pt b ws (all.drop (i + 1)) M'), fun s' H' h' => ⟨all.length - (i + 1), by omega, rfl, lt, h'⟩, fun y H' hy => ?_⟩
        obtain ⟨G3, V3, R3, r3⟩ := w.yld i G2 M2 s2 H2 y H' all[i] R2 x2 c (SameAt.of_not ns) (List.getElem?_eq_getElem lt) hy
        have h3 := SOut.late h2 V3.ext
        cases er : asgPat pt all[i] M2.r with
        | none => simp only [forTurn, er] at h3; exact h3.elim
        | some r' =>
          simp only [forTurn, er] at h3
          obtain ⟨s', R5, k1, _⟩ := gPat_ok R3 r3 er
          refine k1 _ ⟨G3, _, R5, ?_⟩
          have x3 := x2.trans V3.ext
          generalize b ⟨r', M2.h⟩ = q at h3 ⊢
          have key : ∀ {M5}, SOut X E W D G3 H' (forL e all pt b ws (all.drop (i + 1)) (forget ws M5)) → ∀ G' s' H2', Ext G3 H' G' H2' → StRep X.K E G' M5 s' H2' → ∃ G' M', StRep X.K E G' M' s' H2' ∧ Ext G1 H1 G' H2' ∧ SOut X E W D G' H2' (forL e all pt b ws (all.drop (i + 1)) M') :=
            fun hh G' s' H2' x R' => ⟨G', _, R'.forget ws, x3.trans x, SOut.late hh x⟩
          cases q with
          | nx M5 => exact fun G' s' H2' x R' => key h3 G' s' H2' x R'
          | cnt M5 => exact fun G' s' H2' x R' => key h3 G' s' H2' x R'
          | brk M5 => exact fun G' s' H2' x R' => h3 G' s' H2' x (R'.forget ws)
          | ret e M5 => exact h3
          | exn c M5 => exact h3
          | bad => exact h3
      · exact h2.elim
    · have e1 : i = all.length := by omega
      subst e1
      rw [List.drop_length] at h2
      unfold forL at h2
      split at h2
      · rename_i c
        exact .inl ⟨w.stop _ G2 M2 s2 H2 R2 x2 c (SameAt.of_not ns) (Nat.le_refl _), SOut.nxt h2 R2⟩
      · exact h2.elim

/-! ### list comprehensions -/
def noX {α : Type} : Res α → Res α
  | .ok a M => .ok a M
  | _ => .bad
/-- a turn of a comprehension: what is added, the state behind it -/
@[simp] def lcStep (pt : Pat) (vs : List Nat) (t : Sm Bool) (f : Sm PV) (x : PV) (M : Mem) : Option (Option PV × Mem) := match asgPat pt x M.r with
  | none => none
  | some r' => match t ⟨r', M.h⟩ with
    | .ok true M1 => (match f M1 with
      | .ok p M2 => some (some p, forget vs M2)
      | _ => none)
    | .ok false M1 => some (none, forget vs M1)
    | _ => none
open Classical in
noncomputable def lcL (e : EV) (all : List PV) (pt : Pat) (vs : List Nat) (t : Sm Bool) (f : Sm PV) : List PV → List PV → Mem → Option (List PV × Mem)
  | [], acc, M => if Chk e all M then some (acc, M) else none
  | x :: r, acc, M => if Chk e all M then (match lcStep pt vs t f x M with
      | some (some p, M') => lcL e all pt vs t f r (acc ++ [p]) M'
      | some (none, M') => lcL e all pt vs t f r acc M'
      | none => none) else none
@[simp] noncomputable def eLc (s : Sm Src) (pt : Pat) (vs : List Nat) (t : Sm Bool) (f : Sm PV) : Sm EV := fun M => (s M).bnd fun sr M1 => match lcL sr.1 sr.2 pt vs t f sr.2 [] (forget vs M1) with
  | some (ps, M2) => .ok (.fr (.lst ps)) M2
  | none => .bad
@[simp] def bYes : Sm Bool := fun M => .ok true M
/-- the block's tests -/
structure FTs (X : Cx) (E : Ent) (W : WX) (ifs : List Expr) (f : Sm Bool) : Prop where
  pe : PTs X ifs (tB' X E W f)
theorem fts_nil : FTs X E W [] bYes := by
  refine ⟨⟨fun pins s σ H Q I h => pts_nil.run pins s σ H Q I ?_⟩⟩
  obtain ⟨G, M, R, h⟩ := h
  exact h.now R
theorem fts_one {c : Expr} {f : Sm Bool} (h : FT X E W c f) : FTs X E W [c] f := ⟨pts_one h.pe⟩
abbrev W0 : WX := fun _ _ _ _ => False
/-- the block's place -/
theorem Amb.blk (A : Amb Z X W N sc fs k) (s : Shared) (H : Hp) (scope : Scope) (C : Addr) (cl : List (Str × Addr)) (fp : List Addr) :
    Amb Z (X.blk s H scope (compEnvC scope cl C X.env) fp) W0 N (relS scope sc) (fun x => scope.names.lookup x == some .cell) k := by
  refine ⟨A.hN, rfl, A.same, ?_, A.nd, A.calm, A.room, takes0, PassesOwn.never⟩
  show relabel scope X.env = _
  rw [← A.hs]
  rfl
theorem OwnAt.agree {r : List (Option LV)} {s s' : L2.St} {a : Addr} (h : ∀ (i : Nat) (x : LV), r[i]? = some (some x) → s'[i]? = s[i]?) : OwnAt r s' a ↔ OwnAt r s a :=
  ⟨fun ⟨i, o, e, e'⟩ => ⟨i, o, e, by rw [← h i _ e]; exact e'⟩, fun ⟨i, o, e, e'⟩ => ⟨i, o, e, by rw [h i _ e]; exact e'⟩⟩
theorem StRep.agree {K : PySem.W.Frag} {G : Gh} {M : Mem} {s s' : L2.St} {H : Hp} (R : StRep K E G M s H) (hl : s'.length = s.length) (h : ∀ (i : Nat) (x : LV), M.r[i]? = some (some x) → s'[i]? = s[i]?) : StRep K E G M s' H := by
  refine ⟨R.post, R.hp, by rw [hl]; exact R.len, fun i p e => ?_, fun i o e => ?_, fun i j o o' a e e' h1 h2 => ?_⟩
  · rw [h i _ e]; exact R.slot i p e
  · rw [h i _ e]; exact R.own i o e
  · rw [h i _ e] at h1; rw [h j _ e'] at h2; exact R.sep i j o o' a e e' h1 h2
theorem forget_get {vs : List Nat} {r : List (Option LV)} : ∀ {i : Nat} {x : LV}, (vs.foldl (fun r i => r.set i none) r)[i]? = some (some x) → r[i]? = some (some x) ∧ i ∉ vs := by
  induction vs generalizing r with
  | nil => intro i x h; exact ⟨h, by simp⟩
  | cons v vs ih =>
    intro i x h
    obtain ⟨h1, h2⟩ := ih h
    by_cases z : v = i
    · subst z
      by_cases lt : v < r.length
      · rw [List.getElem?_set_self lt] at h1; cases h1
      · rw [List.getElem?_eq_none (by simpa using lt)] at h1; cases h1
    · rw [List.getElem?_set_ne z] at h1
      exact ⟨h1, by simp only [List.mem_cons, not_or]; exact ⟨fun e => z e.symm, h2⟩⟩
theorem forget_agree {vs : List Nat} {M : Mem} {s : L2.St} : ∀ (i : Nat) (x : LV), (forget vs M).r[i]? = some (some x) → (wipe s vs)[i]? = s[i]? := fun i x h => wipe_out (forget_get h).2
/-- an upd at an address that nothing holds -/
theorem StRep.upd {K : PySem.W.Frag} {G : Gh} {M : Mem} {s : L2.St} {H : Hp} (R : StRep K E G M s H) {p : Addr} (o : HO) (eh : E.H p = none) (nf : ¬ G.F p) (na : p ∉ G.al) (no : ¬ OwnAt M.r s p) (nx : ∀ u, H p = some u → NoX u) : StRep K E G M s (L2.upd H p o) := by
  have x := ext_upd (H := H) (o := o) nf
  refine ⟨post_upd R.post nf (.inr eh) nx, hprep_upd R.hp nf na, R.len, fun i q e => ?_, fun i ob e => ?_, R.sep⟩
  · obtain ⟨u, h1, h2⟩ := R.slot i q e
    exact ⟨u, h1, RepV.mono x _ _ h2⟩
  · obtain ⟨a, u, h1, h2, h3, h4⟩ := R.own i ob e
    exact ⟨a, u, h1, by rw [L2.upd_ne (fun (z : a = p) => no ⟨i, ob, e, by rw [← z]; exact h1⟩)]; exact h2, h3.mono x, h4⟩
theorem Evo.upd {s : L2.St} {G0 G : Gh} {M0 M : Mem} {H0 H : Hp} (V : Evo s G0 M0 H0 G M H) {p : Addr} (o : HO) (h : H0 p = none) (nf : ¬ G.F p) : Evo s G0 M0 H0 G M (L2.upd H p o) := by
  refine ⟨V.ext.trans (ext_upd nf), fun a u e n f ow nt => ?_, V.own, fun a e => ?_⟩
  · obtain ⟨h1, h2, h3⟩ := V.keep a u e n f ow nt
    exact ⟨by rw [L2.upd_ne (ne_of_none e h)]; exact h1, h2, h3⟩
  · by_cases z : a = p
    · subst z; rw [upd_same] at e; cases e
    · rw [L2.upd_ne z] at e; exact V.dom a e
theorem wipe_agree {s s' : L2.St} {vs : List Nat} (hl : s'.length = s.length) (h : ∀ j, j ∉ vs → s'[j]? = s[j]?) : wipe s' vs = wipe s vs := by
  apply List.ext_getElem?
  intro j
  by_cases hj : j ∈ vs
  · have none_at : ∀ (t : L2.St) (vs : List Nat), j ∈ vs → (wipe t vs)[j]? = if j < t.length then some none else none := fun t vs => by
      induction vs with
      | nil => intro h; simp at h
      | cons v vs ih =>
        intro h
        unfold wipe
        by_cases z : v = j
        · subst z
          rw [List.getElem?_set]
          simp [wipe_length]
        · rw [List.getElem?_set_ne z]
          exact ih ((List.mem_cons.mp h).resolve_left fun e => z e.symm)
    rw [none_at _ _ hj, none_at _ _ hj, hl]
  · rw [wipe_out hj, wipe_out hj, h j hj]
theorem wipe_wipe (s : L2.St) (vs : List Nat) : wipe (wipe s vs) vs = wipe s vs := wipe_agree (wipe_length _ _) fun j hj => wipe_out hj
theorem setAll_own : ∀ {is : List Nat} {ps : List PV} {r r' : List (Option LV)} {j : Nat} {o : PO}, setAll is ps r = some r' → r'[j]? = some (some (.own o)) → r[j]? = some (some (.own o))
  | [], [], r, r', j, o, e, h => by cases e; exact h
  | i :: is, p :: ps, r, r', j, o, e, h => by
    have h1 := setAll_own (is := is) (ps := ps) e h
    by_cases z : i = j
    · subst z
      by_cases lt : i < r.length
      · rw [List.getElem?_set_self lt] at h1; cases h1
      · rw [List.getElem?_eq_none (by simpa using lt)] at h1; cases h1
    · rw [List.getElem?_set_ne z] at h1; exact h1
  | [], p :: ps, _, _, _, _, e, _ => by cases e
  | i :: is, [], _, _, _, _, e, _ => by cases e
theorem asgPat_own {pt : Pat} {p : PV} {r r' : List (Option LV)} {j : Nat} {o : PO} (e : asgPat pt p r = some r') (h : r'[j]? = some (some (.own o))) : r[j]? = some (some (.own o)) := by
  cases pt with
  | nm i => exact setAll_own (is := [i]) (ps := [p]) (by simpa using e) h
  | tp is =>
    cases p with
    | tup ps => exact setAll_own e h
    | _ => cases e
theorem setAll_size : ∀ {is : List Nat} {ps : List PV} {r r' : List (Option LV)}, setAll is ps r = some r' → r'.length = r.length
  | [], [], r, r', e => by cases e; rfl
  | i :: is, p :: ps, r, r', e => by rw [setAll_size (is := is) (ps := ps) e, List.length_set]
  | [], p :: ps, _, _, e => by cases e
  | i :: is, [], _, _, e => by cases e
theorem asgPat_len {pt : Pat} {p : PV} {r r' : List (Option LV)} (e : asgPat pt p r = some r') : r'.length = r.length := by
  cases pt with
  | nm i => exact setAll_size (is := [i]) (ps := [p]) (by simpa using e)
  | tp is =>
    cases p with
    | tup ps => exact setAll_size e
    | _ => cases e
/-- the reading of a comprehension, from its meaning -/
theorem lc_ok {vs : List Nat} {f : Sm Src} {pt : Pat} {t : Sm Bool} {el : Sm PV} {s : L2.St} {H : Hp} {Q : VK} (X' : Cx) (hK : X'.K = X.K) (hp : ∀ i ∈ pt.slots, i ∈ vs) (h : tE X E W (eLc f pt vs t el) s H Q) :
    tLc (tI X E W f) (gPat X.K pt) (tB' X' E W0 t) (tP X' E W0 el) vs s H Q := by
  obtain ⟨G, M, R, h⟩ := h
  refine ⟨G, M, R, ?_⟩
  cases hf : f M with
  | exn c M1 => simp only [eLc, hf, Res.bnd] at h; exact h
  | bad => simp only [eLc, hf, Res.bnd] at h; exact h
  | ok sr M1 =>
    obtain ⟨e, all⟩ := sr
    simp only [eLc, hf, Res.bnd] at h
    intro G1 H1 V1 R1 J w D hD
    cases hl : lcL e all pt vs t el all [] (forget vs M1) with
    | none => rw [hl] at h; exact h.elim
    | some z =>
      obtain ⟨ps, Mf⟩ := z
      rw [hl] at h
      have sz : all.length ≤ all.length := Nat.le_refl _
      -- the block's start
      have Rw : StRep X.K E G1 (forget vs M1) (wipe s vs) H1 := (R1.forget vs).agree (wipe_length _ _) forget_agree
      obtain ⟨R2, _, eD, nfD, naD, noD⟩ := Rw.laid (.lst []) hD
      have V2 : Evo (wipe s vs) G1 (forget vs M1) H1 G1 (forget vs M1) (L2.upd H1 D (.lst [])) := (Evo.refl _ _ _ _).upd _ hD nfD
      refine ⟨fun i m H' => m = all.length - i ∧ i ≤ all.length ∧ ∃ G' M' acc us, StRep X.K E G' M' (wipe s vs) H' ∧ Evo (wipe s vs) G1 (forget vs M1) H1 G' M' H' ∧ H' D = some (.lst us) ∧ RepVs X.K G' H' acc us ∧ us.length ≤ i ∧
          E.H D = none ∧ ¬ G'.F D ∧ D ∉ G'.al ∧ ¬ OwnAt M'.r (wipe s vs) D ∧ (∀ j x, M'.r[j]? = some (some x) → j ∉ vs) ∧ lcL e all pt vs t el (all.drop i) acc M' = some (ps, Mf),
        ⟨all.length, by simp, Nat.zero_le _, G1, forget vs M1, [], [], R2, V2, upd_same, RepVs.nil, Nat.le_refl _, eD, nfD, naD, noD, fun j x e => (forget_get e).2, by simpa using hl⟩, ?_⟩
      rintro i m H3 ⟨rfl, hi, G3, M3, acc, us, R3, V3, hD3, racc, hus, eD3, nf3, na3, no3, out3, hl3⟩
      by_cases lt : i < all.length
      · rw [List.drop_eq_getElem_cons lt] at hl3
        unfold lcL at hl3
        split at hl3
        · rename_i c
          have sa : SameAt e s (wipe s vs) := by
            cases e with
            | sl j =>
              have c : slotAt M3 j = some (.own (.lst all)) := c
              exact wipe_out (out3 j _ (slotAt_some c))
            | v p => trivial
            | fr o => trivial
          have x3 : Ext G1 H1 G3 H3 := V3.ext
          refine .inr ⟨w.go i G3 M3 _ H3 R3 x3 c sa lt, fun H' => ∃ G' M' acc us, StRep X.K E G' M' (wipe s vs) H' ∧ Evo (wipe s vs) G1 (forget vs M1) H1 G' M' H' ∧ H' D = some (.lst us) ∧ RepVs X.K G' H' acc us ∧ us.length ≤ i + 1 ∧
            E.H D = none ∧ ¬ G'.F D ∧ D ∉ G'.al ∧ ¬ OwnAt M'.r (wipe s vs) D ∧ (∀ j x, M'.r[j]? = some (some x) → j ∉ vs) ∧ lcL e all pt vs t el (all.drop (i + 1)) acc M' = some (ps, Mf),
            fun H' h' => ⟨all.length - (i + 1), by omega, rfl, lt, h'⟩, fun y H' hy => ?_⟩
          obtain ⟨G4, V4, R4, r4⟩ := w.yld i G3 M3 _ H3 y H' all[i] R3 x3 c sa (List.getElem?_eq_getElem lt) hy
          cases er : asgPat pt all[i] M3.r with
          | none => simp only [lcStep, er] at hl3; cases hl3
          | some r' =>
            simp only [lcStep, er] at hl3
            obtain ⟨s', R5, k1, k2⟩ := gPat_ok R4 r4 er
            have ls : s'.length = (wipe s vs).length := by
              rw [← R5.len, ← R3.len]
              exact asgPat_len er
            have kk : ∀ j, j ∉ vs → s'[j]? = (wipe s vs)[j]? := fun j hj => k2 j fun z => hj (hp j z)
            have ws : wipe s' vs = wipe s vs := by rw [wipe_agree ls kk, wipe_wipe]
            refine k1 _ ⟨by first | exact ws | rw [ws, wipe_wipe], ?_⟩
            -- D is nobody's
            obtain ⟨hD4, na4, nf4⟩ := V4.keep D _ hD3 na3 nf3 no3 (fun _ z => (nomatch z))
            have no4 : ¬ OwnAt M3.r (wipe s vs) D := no3
            have no5 : ¬ OwnAt r' s' D := fun ⟨j, o, e1, e2⟩ => by
              have z := R5.own j o e1
              obtain ⟨a, u, z1, z2, z3, z4, z5, z6⟩ := z
              have := asgPat_own er e1
              exact no3 ⟨j, o, this, by rw [← kk j (out3 j _ this)]; exact e2⟩
            have R5' : StRep X'.K E G4 ⟨r', M3.h⟩ s' H' := by rw [hK]; exact R5
            -- behind the test, and the element, back to the block's slots
            have back : ∀ {G6 M6 H6}, Evo s' G4 ⟨r', M3.h⟩ H' G6 M6 H6 → StRep X.K E G6 M6 s' H6 →
                StRep X.K E G6 (forget vs M6) (wipe s vs) H6 ∧ Evo (wipe s vs) G1 (forget vs M1) H1 G6 (forget vs M6) H6 ∧ H6 D = some (.lst us) ∧ Ext G3 H3 G6 H6 ∧ ¬ G6.F D ∧ D ∉ G6.al ∧ ¬ OwnAt (forget vs M6).r (wipe s vs) D := fun {G6 M6 H6} V6 R6 => by
              obtain ⟨hD6, na6, nf6⟩ := V6.keep D _ hD4 na4 nf4 no5 (fun _ z => (nomatch z))
              have R7 : StRep X.K E G6 (forget vs M6) (wipe s vs) H6 := (R6.forget vs).agree ls.symm fun j x e => (kk j (forget_get e).2).symm
              have own7 : ∀ a, OwnAt (forget vs M6).r (wipe s vs) a → OwnAt M3.r (wipe s vs) a := fun a ⟨j, o, e1, e2⟩ => by
                obtain ⟨e3, e4⟩ := forget_get e1
                have e5 : s'[j]? = some (some (.ref a)) := by rw [kk j e4]; exact e2
                obtain ⟨j', o', e6, e7⟩ := V6.own a ⟨j, o, e3, e5⟩
                have e8 := asgPat_own er e6
                exact ⟨j', o', e8, by rw [← kk j' (out3 j' _ e8)]; exact e7⟩
              refine ⟨R7, V3.trans ⟨V4.ext.trans V6.ext, fun a u e1 e2 e3 e4 nt => ?_, own7, fun a e => V4.dom a (V6.dom a e)⟩, hD6, V4.ext.trans V6.ext, nf6, na6, fun z => no3 (own7 _ z)⟩
              obtain ⟨z1, z2, z3⟩ := V4.keep a u e1 e2 e3 e4 nt
              exact V6.keep a u z1 z2 z3 (fun ⟨j, o, f1, f2⟩ => by
                have f3 := asgPat_own er f1
                exact e4 ⟨j, o, f3, by rw [← kk j (out3 j _ f3)]; exact f2⟩) nt
            refine ⟨G4, _, R5', ?_⟩
            cases ht : t ⟨r', M3.h⟩ with
            | exn c M6 => simp only [ht] at hl3; cases hl3
            | bad => simp only [ht] at hl3; cases hl3
            | ok b M6 =>
              simp only [ht] at hl3
              intro G6 H6 V6 R6
              have R6 : StRep X.K E G6 M6 s' H6 := by rw [← hK]; exact R6
              cases b with
              | false =>
                obtain ⟨q1, q2, q3, q4, q5, q6, q7⟩ := back V6 R6
                exact iteF ⟨G6, _, acc, us, q1, q2, q3, RepVs.mono q4 _ _ racc, by omega, eD3, q5, q6, q7, fun j x e => (forget_get e).2, hl3⟩
              | true =>
                refine iteT ⟨G6, M6, by rw [hK]; exact R6, ?_⟩
                cases he : el M6 with
                | exn c M7 => simp only [he] at hl3; cases hl3
                | bad => simp only [he] at hl3; cases hl3
                | ok p M7 =>
                  simp only [he] at hl3
                  intro G7 H7 V7 R7 u ru
                  rw [hK] at R7 ru
                  obtain ⟨q1, q2, q3, q4, q5, q6, q7⟩ := back (V6.trans V7) R7
                  have x8 := ext_upd (H := H7) (o := .lst (us ++ [u])) q5
                  have lu : us.length < sizeLine := Nat.lt_of_le_of_lt hus (Nat.lt_of_lt_of_le lt w.sz)
                  exact ⟨us, q3, lu, G7, _, acc ++ [p], us ++ [u], q1.upd _ eD3 q5 q6 q7 (fun v z => by rw [q3] at z; cases z; exact ⟨fun _ y => (nomatch y), fun _ y => (nomatch y)⟩), q2.upd _ hD q5, upd_same, RepVs.mono x8 _ _ ((RepVs.mono q4 _ _ racc).snoc ru), by simp; omega, eD3, q5, q6, q7, fun j x e => (forget_get e).2, hl3⟩
        · cases hl3
      · have e1 : i = all.length := by omega
        subst e1
        rw [List.drop_length] at hl3
        unfold lcL at hl3
        split at hl3
        · rename_i c
          cases hl3
          have sa : SameAt e s (wipe s vs) := by
            cases e with
            | sl j =>
              have c : slotAt Mf j = some (.own (.lst all)) := c
              exact wipe_out (out3 j _ (slotAt_some c))
            | v p => trivial
            | fr o => trivial
          refine .inl ⟨w.stop _ G3 Mf _ H3 R3 V3.ext c sa (Nat.le_refl _), ?_⟩
          -- back to the def's slots
          have ag : ∀ (j : Nat) (x : LV), Mf.r[j]? = some (some x) → s[j]? = (wipe s vs)[j]? := fun j x e => (wipe_out (out3 j x e)).symm
          have Rf : StRep X.K E G3 Mf s H3 := R3.agree (wipe_length _ _).symm ag
          have Vf : Evo s G1 M1 H1 G3 Mf H3 := by
            refine ⟨V3.ext, fun a u e1 e2 e3 e4 nt => V3.keep a u e1 e2 e3 (fun ⟨j, o, f1, f2⟩ => ?_) nt, fun a ⟨j, o, f1, f2⟩ => ?_, V3.dom⟩
            · obtain ⟨f3, f4⟩ := forget_get f1
              exact e4 ⟨j, o, f3, by rw [← wipe_out (σ := s) f4]; exact f2⟩
            · obtain ⟨j', o', f3, f4⟩ := V3.own a ⟨j, o, f1, by rw [← ag j _ f1]; exact f2⟩
              obtain ⟨f5, f6⟩ := forget_get f3
              exact ⟨j', o', f5, by rw [← wipe_out (σ := s) f6]; exact f4⟩
          have noF : ¬ OwnAt Mf.r s D := fun z => no3 ((OwnAt.agree ag).mp z)
          exact h G3 H3 (V1.trans Vf) Rf _ ⟨D, _, rfl, hD3, ⟨us, rfl, Nat.le_trans hus w.sz, racc⟩, eD3, nf3, na3, noF, V1.dom _ hD⟩
        · cases hl3
end
end HF

end
section
set_option Elab.async false
set_option linter.all false
set_option maxRecDepth 20000
set_option autoImplicit false
/-! HF8: comprehensions as expressions and as stored values; defs and their calls; built-in functions and methods. -/
namespace HF
open PySem PySem.Spec PyProof.Rows L2
section
variable {X : Cx} {E : Ent} {W : WX} {N : List Str} {sc : Scope} {fs : Str → Bool} {k : Nat} {Z : Wd}

/-! ### list comprehensions -/
section
variable {elt tg iter : Expr} {ifs : List Expr} {scope : Scope} {pos : Pos} {f : Sm Src} {pt : Pat} {t : Sm Bool} {el : Sm PV}
theorem lc_rule (A : Amb Z X W N sc fs k) (own : List (Str × Nat)) (hi : FI X E W tg iter f) (hok : blkC N sc scope own = true) (hp : ∀ i ∈ pt.slots, i ∈ own.map (·.2))
    (hg : ∀ X', Amb Z X' W0 N (relS scope sc) (fun x => scope.names.lookup x == some .cell) k → FG X' tg pt)
    (ht : ∀ X', Amb Z X' W0 N (relS scope sc) (fun x => scope.names.lookup x == some .cell) k → FTs X' E W0 ifs t)
    (he : ∀ X', Amb Z X' W0 N (relS scope sc) (fun x => scope.names.lookup x == some .cell) k → FP X' E W0 elt el)
    (hs : ∀ x, foldedSetIterable iter X.env x = pure x := by intro _; rfl) : FE X E W (.ListComp elt [⟨tg, iter, ifs, 0⟩] scope pos) (eLc f pt (own.map (·.2)) t el) := by
  have bk : BlkOk X.N X.env.scope scope own := by rw [A.hN, A.hs]; exact blkOk_by hok
  refine ⟨PE.weak (pe_lc (te := tP X E W0 el) (tt := tB' X E W0 t) (g := gPat X.K pt) A.calm (by rw [A.hN]; exact A.nd) hi.pi bk (fun s H C cl fp => (hg _ (A.blk s H scope C cl fp)).pg) (fun s H C cl fp => (ht _ (A.blk s H scope C cl fp)).pe) (fun s H C cl fp => (he _ (A.blk s H scope C cl fp)).pe) hs) ?_⟩
  intro s H Q h
  exact lc_ok X rfl hp h
theorem lcset (A : Amb Z X W N sc fs k) {i : Nat} {y : Str} {py spos : Pos} (own : List (Str × Nat)) (hy : N[i]? = some y) (hyl : sc.names.lookup y = some .local) (hsw : swapsWith (.ListComp elt [⟨tg, iter, ifs, 0⟩] scope pos) (some (.Name y py)) spos.line X.env = pure true)
    (hi : FI X E W tg iter f) (hok : blkC N sc scope own = true) (hp : ∀ i ∈ pt.slots, i ∈ own.map (·.2))
    (hg : ∀ X', Amb Z X' W0 N (relS scope sc) (fun x => scope.names.lookup x == some .cell) k → FG X' tg pt)
    (ht : ∀ X', Amb Z X' W0 N (relS scope sc) (fun x => scope.names.lookup x == some .cell) k → FTs X' E W0 ifs t)
    (he : ∀ X', Amb Z X' W0 N (relS scope sc) (fun x => scope.names.lookup x == some .cell) k → FP X' E W0 elt el)
    (hs : ∀ x, foldedSetIterable iter X.env x = pure x) : PS X (.Assign [.Name y py] (.ListComp elt [⟨tg, iter, ifs, 0⟩] scope pos) spos) (tAsg (tE X E W (eLc f pt (own.map (·.2)) t el)) (gName i)) := by
  have bk : BlkOk X.N X.env.scope scope own := by rw [A.hN, A.hs]; exact blkOk_by hok
  refine PS.weak (ps_setLc (te := tP X E W0 el) (tt := tB' X E W0 t) (g := gPat X.K pt) A.calm (by rw [A.hN]; exact A.nd) (by rw [A.hN]; exact hy) (by rw [A.hs]; exact hyl) hsw hi.pi bk (fun s H C cl fp => (hg _ (A.blk s H scope C cl fp)).pg) (fun s H C cl fp => (ht _ (A.blk s H scope C cl fp)).pe) (fun s H C cl fp => (he _ (A.blk s H scope C cl fp)).pe) hs) ?_
  intro D s H h
  exact lc_ok X rfl hp h
/-- name = [..], the list the name's own -/
theorem fs_lcOwn (A : Amb Z X W N sc fs k) {i : Nat} {y : Str} {py spos : Pos} (own : List (Str × Nat)) (hy : N[i]? = some y) (hyl : sc.names.lookup y = some .local) (hl : (py.line == pos.line) = true) (hnc : (scope.names.any fun (n, k) => n == y && (k == .local || k == .cell)) = false) (hk : sc.kind = .function)
    (hi : FI X E W tg iter f) (hok : blkC N sc scope own = true) (hp : ∀ i ∈ pt.slots, i ∈ own.map (·.2))
    (hg : ∀ X', Amb Z X' W0 N (relS scope sc) (fun x => scope.names.lookup x == some .cell) k → FG X' tg pt)
    (ht : ∀ X', Amb Z X' W0 N (relS scope sc) (fun x => scope.names.lookup x == some .cell) k → FTs X' E W0 ifs t)
    (he : ∀ X', Amb Z X' W0 N (relS scope sc) (fun x => scope.names.lookup x == some .cell) k → FP X' E W0 elt el)
    (hs : ∀ x, foldedSetIterable iter X.env x = pure x := by intro _; rfl) : FS X E W (.Assign [.Name y py] (.ListComp elt [⟨tg, iter, ifs, 0⟩] scope pos) spos) (sOwn i (eLc f pt (own.map (·.2)) t el)) :=
  ⟨PS.weak (lcset A own hy hyl (sw_true (by rw [A.hs]; exact hk) (by rw [A.hs]; exact hyl) hl hnc) hi hok hp hg ht he hs) fun _ _ _ h => set_tE h⟩
end
theorem tAsg_toP {i : Nat} {f : Sm EV} {D : Ends} {s : L2.St} {H : Hp} (h : tS X E W (sSet i (toP f)) D s H) : tAsg (tE X E W f) (gName i) D s H := by
  obtain ⟨G, M, R, h⟩ := h
  refine ⟨G, M, R, ?_⟩
  simp only [sSet, toP] at h
  generalize f M = q at h
  cases q with
  | ok ev M1 =>
    intro G1 H1 V1 R1 u ru
    have h : SOut X E W D G H ((toP1 ev M1).st fun p M1 => .nx ⟨M1.r.set i (some (.v p)), M1.h⟩) := h
    have h2 := OutP.st (s := s) (M := M) h
    obtain ⟨G2, M2, p, V2, R2, rv, q⟩ := OutP.toP1 V1 R1 ru h2
    exact SOut.nxt q (R2.setV i rv)
  | exn c M1 => exact fun G' H' C x R m => h G' s H' C x R m
  | bad => exact h
/-- name = [..], a value -/
theorem fs_lcSet (A : Amb Z X W N sc fs k) {elt tg iter : Expr} {ifs : List Expr} {scope : Scope} {pos : Pos} {f : Sm Src} {pt : Pat} {t : Sm Bool} {el : Sm PV} {i : Nat} {y : Str} {py spos : Pos} (own : List (Str × Nat)) (hy : N[i]? = some y) (hyl : sc.names.lookup y = some .local) (hl : (py.line == pos.line) = true)
    (hnc : (scope.names.any fun (n, k) => n == y && (k == .local || k == .cell)) = false) (hk : sc.kind = .function)
    (hi : FI X E W tg iter f) (hok : blkC N sc scope own = true) (hp : ∀ i ∈ pt.slots, i ∈ own.map (·.2))
    (hg : ∀ X', Amb Z X' W0 N (relS scope sc) (fun x => scope.names.lookup x == some .cell) k → FG X' tg pt)
    (ht : ∀ X', Amb Z X' W0 N (relS scope sc) (fun x => scope.names.lookup x == some .cell) k → FTs X' E W0 ifs t)
    (he : ∀ X', Amb Z X' W0 N (relS scope sc) (fun x => scope.names.lookup x == some .cell) k → FP X' E W0 elt el)
    (hs : ∀ x, foldedSetIterable iter X.env x = pure x := by intro _; rfl) : FS X E W (.Assign [.Name y py] (.ListComp elt [⟨tg, iter, ifs, 0⟩] scope pos) spos) (sSet i (toP (eLc f pt (own.map (·.2)) t el))) :=
  ⟨PS.weak (lcset A own hy hyl (sw_true (by rw [A.hs]; exact hk) (by rw [A.hs]; exact hyl) hl hnc) hi hok hp hg ht he hs) fun _ _ _ h => tAsg_toP h⟩

/-! ### defs -/
inductive FR where
  | ok (e : EV) (h : List PO)
  | exn (c : Str) (h : List PO)
  | bad
abbrev Fn := List PV → List PO → FR
def spOf (T : List NdefX.NTab) (K : PySem.W.Frag) (mg : Str → Option Value) (φ : Fn) : Sp := fun vs H Q Ex => ∃ G h ps, HpRep K G h H ∧ TabsOk T G H ∧ RepVs K G H ps vs ∧ match φ ps h with
  | .ok e h' => ∀ G' H' u, Post T G H G' H' → HpRep K G' h' H' → RepR K H G' H' e u → Q u H'
  | .exn c h' => ∀ G' H' C, Post T G H G' H' → HpRep K G' h' H' → mg c = some (.ref C) → Ex (.ref C) none H'
  | .bad => False
/-- a def of the module that keeps φ; ds: the values of the parameters that are left out, at the end -/
structure Known (Z : Wd) (k : Nat) (x : Str) (ds : List PV) (φ : Fn) : Prop where
  ok : ∃ (f : Addr) (fd : FuncData) (ps : List Str) (dvs : List V) (dus : List Value), FnOk Z.P Z.w Z.K Z.mg Z.base (L2.CX Z.P Z.w) k f fd ps (spOf Z.T Z.K Z.mg φ) ∧ Z.mg x = some (.ref f) ∧ PySem.W.keepIn Z.K (.ref f) = true ∧ Binds Z.K fd ps dus ∧ Vals dvs dus ∧ ∀ G H, RepVs Z.K G H ds dvs
theorem Known.mono {x : Str} {ds : List PV} {φ : Fn} {j : Nat} (h : Known Z j x ds φ) (l : j ≤ k) : Known Z k x ds φ := by
  obtain ⟨f, fd, ps, dvs, dus, F, r⟩ := h.ok
  exact ⟨f, fd, ps, dvs, dus, F.mono l, r⟩
/-- behind a call -/
theorem StRep.called {K : PySem.W.Frag} {G G' : Gh} {M : Mem} {s : L2.St} {H H' : Hp} {h' : List PO} (R : StRep K E G M s H) (p : Post E.T G H G' H') (hr : HpRep K G' h' H') : StRep K E G' ⟨M.r, h'⟩ s H' ∧ Evo s G M H G' ⟨M.r, h'⟩ H' := by
  refine ⟨⟨R.post.trans p, hr, R.len, fun i q e => ?_, fun i o e => ?_, R.sep⟩, p.ext, fun a u e n f _ nt => ⟨p.keep a u e n f nt, p.noal e n, p.nof e f⟩, fun _ h => h, p.dom⟩
  · obtain ⟨u, h1, h2⟩ := R.slot i q e
    exact ⟨u, h1, RepV.mono p.ext _ _ h2⟩
  · obtain ⟨a, u, h1, h2, h3, h4, h5, h6⟩ := R.own i o e
    exact ⟨a, u, h1, p.keep a u h2 h6 h5 h3.nox.2, h3.mono p.ext, h4, p.nof h2 h5, p.noal h2 h6⟩
@[simp] def eCall (φ : Fn) (ds : List PV) (g : Sm (List PV)) : Sm EV := fun M => (g M).bnd fun ps M1 => match φ (ps ++ ds) M1.h with
  | .ok (.sl _) _ => .bad
  | .ok e h' => .ok e ⟨M1.r, h'⟩
  | .exn c h' => .exn c ⟨M1.r, h'⟩
  | .bad => .bad
theorem run_fnD {f : Addr} {fd : FuncData} {ps : List Str} {sp : Sp} {dvs : List V} {ds : List Value} {pins : List (Addr × Obj)} {σ : L2.St} {H : Hp} {s : Shared} {Q : VK} {us : List Value} {vs : List V}
    (F : FnOk X.prog X.w X.K X.mg X.base (L2.CX X.prog X.w) k f fd ps sp) (hr : Room k X.A) (hb : Binds X.K fd ps ds) (hd : Vals dvs ds) (tk : Takes X W)
    (I : Inv X pins σ H s) (r : Vals vs us) (h : sp (vs ++ dvs) H Q (WE W σ)) : wpAny (model X.prog X.w) X.A (call (.ref f) us) (EP X pins σ Q) X.xe s := by
  have r2 := r.append hd
  have hl : (us ++ ds).length = ps.length := r2.length.symm.trans (F.len _ _ _ _ h)
  have go := F.run X.A X.stack s H ⟨us, []⟩ (us ++ ds) (vs ++ dvs) Q (WE W σ) hr I.env0 (hb s us I.kIn hl) r2 h
  refine wpAny_call (codeAny_mono go fun z s' hq => ?_)
  cases z with
  | error e => exact passAt tk σ pins H s e s' I hq
  | ok fl =>
    cases fl with
    | ret u => exact I.after hq
    | next => exact hq.elim
    | brk => exact hq.elim
    | cont => exact hq.elim
section
variable {x : Str} {e : Expr} {es : List Expr} {p pos : Pos} {g : Sm (List PV)} {φ : Fn} {ds : List PV}
theorem fe_call (A : Amb Z X W N sc fs k) (hT : E.T = Z.T) (hK : Known Z k x ds φ) (ha : FL X E W (e :: es) g) (hg : sc.names.lookup x = some .globalImplicit := by rfl) (hdb : (x == ("__debug__" : Str)) = false := by decide)
    (he : starEach (e :: es) X.env = (false, eval e X.env) :: starEach es X.env := by rfl) (hpl : (backTo pos (starEach es X.env)).any (fun z => z.1) = false := by rfl) : FE X E W (.Call (.Name x p) (e :: es) [] pos) (eCall φ ds g) := by
  obtain ⟨f, fd, ps, dvs, dus, F, hm, hk, hb, hd, hr⟩ := hK.ok
  obtain ⟨s1, s2, s3, s4, s5⟩ := A.same
  rw [← s1, ← s2, ← s3, ← s4, ← s5] at F
  rw [← s3] at hk hb hr
  rw [← s4] at hm
  refine ⟨⟨fun pins s σ H Q I h => ?_⟩⟩
  obtain ⟨G, M, R, h⟩ := h
  refine wpAny_Call_Name_kw (ld_glob I (A.gl hg) hm ?_ hdb)
  refine PySem.W.callWith_K (h₀ := X.base) I.ok.mod.kin hk (thn (ha.fa.pe.run pos pins s σ H (fun vs H1 => spOf Z.T X.K X.mg φ (vs ++ dvs) H1 Q (WE W σ)) I ?_) fun us s1 ⟨vs, H1, I1, r, q⟩ => ⟨I1.kIn, run_fnD F A.room hb hd A.tk I1 r q⟩) he hpl
  refine tL_one R h fun G1 M1 H1 ps us V1 R1 rr q => ?_
  refine ⟨G1, M1.h, ps ++ ds, R1.hp, hT ▸ R1.post.tabs E.ok, rr.append (hr G1 H1), ?_⟩
  cases hφ : φ (ps ++ ds) M1.h with
  | bad => rw [hφ] at q; exact q
  | exn c h' =>
    rw [hφ] at q
    intro G2 H2 C p2 r2 m
    obtain ⟨R3, V3⟩ := R1.called (hT ▸ p2) r2
    exact q G2 H2 C V3.ext R3 m
  | ok ev h' =>
    rw [hφ] at q
    intro G2 H2 u p2 r2 ru
    obtain ⟨R3, V3⟩ := R1.called (hT ▸ p2) r2
    cases ev with
    | v pv => exact q G2 H2 V3 R3 u ru
    | sl i => exact q.elim
    | fr o =>
      obtain ⟨a, w, rfl, h1, ro, hn, nf, nl⟩ := ru
      have no : ¬ OwnAt M1.r σ a := fun ⟨i, o2, e1, e2⟩ => by
        obtain ⟨b, w2, z1, z2, _⟩ := R1.own i o2 e1
        rw [e2] at z1; cases z1
        rw [hn] at z2; cases z2
      exact q G2 H2 V3 R3 _ ⟨a, w, rfl, h1, ro, R1.post.dom a hn, nf, nl, no, V1.dom a hn⟩
end
/-- a def's run -/
def runDef (n m : Nat) (fb : Ss) : Fn := fun args h => if args.length = n then (match fb ⟨args.map (fun p => some (LV.v p)) ++ List.replicate (m - n) none, h⟩ with
  | .nx M => .ok (.v .non) M.h
  | .ret (.sl _) _ => .bad
  | .ret e M => .ok e M.h
  | .exn c M => .exn c M.h
  | _ => .bad) else .bad
theorem start_rep {K : PySem.W.Frag} {G : Gh} {H : Hp} {h : List PO} {ps : List PV} {vs : List V} {n m : Nat} (hp : HpRep K G h H) (r : RepVs K G H ps vs) {N : List Str} {T : List NdefX.NTab} (tb : TabsOk T G H) (hn : ps.length = n) (hm : N.length = m) : StRep K ⟨G, H, T, tb⟩ G ⟨ps.map (fun p => some (LV.v p)) ++ List.replicate (m - n) none, h⟩ (L2.start N vs) H := by
  have lv := r.length
  have get : ∀ (i : Nat) (x : LV), (ps.map (fun p => some (LV.v p)) ++ List.replicate (m - n) none)[i]? = some (some x) → ∃ p, ps[i]? = some p ∧ x = .v p := fun i x e => by
    by_cases lt : i < ps.length
    · rw [List.getElem?_append_left (by simpa using lt), List.getElem?_map, List.getElem?_eq_getElem lt] at e
      cases e
      exact ⟨_, List.getElem?_eq_getElem lt, rfl⟩
    · rw [List.getElem?_append_right (by simpa using lt), List.getElem?_replicate] at e
      split at e <;> cases e
  refine ⟨Post.refl _ _ _, hp, ?_, fun i p e => ?_, fun i o e => ?_, fun i j o o' a e => ?_⟩
  · show (ps.map _ ++ List.replicate _ _).length = (L2.start N vs).length
    unfold L2.start
    simp [hm, lv, ← hn]
  · obtain ⟨q, e1, e2⟩ := get i _ e
    cases e2
    obtain ⟨v, e3, e4⟩ := r.get e1
    refine ⟨v, ?_, e4⟩
    unfold L2.start
    rw [List.getElem?_append_left (by simpa using (List.getElem?_eq_some_iff.mp e3).1), List.getElem?_map, e3]
    rfl
  · obtain ⟨q, e1, e2⟩ := get i _ e; cases e2
  · obtain ⟨q, e1, e2⟩ := get i _ e; cases e2
theorem def_ok {x qual : Str} {st : Stmt} {f : Addr} {fd : FuncData} {ps : List Str} {fb : Ss} (F : Fun Z.K x qual st f fd) (S : FnScope N ps (defScope st))
    (hb : ∀ X E W, Amb Z X W N (defScope st) (fun _ => true) k → E.T = Z.T → FSs X E W (defBody st) fb) : FnOk Z.P Z.w Z.K Z.mg Z.base (L2.CX Z.P Z.w) (k + 1) f fd ps (spOf Z.T Z.K Z.mg (runDef ps.length N.length fb)) := by
  refine F.okX S (fun vs H Q Ex h => ?_) fun cdv A outer s H vs Q Ex hr h => ?_
  · obtain ⟨G, h, ps', hp, tb, r, q⟩ := h
    unfold runDef at q
    split at q
    · rename_i hl
      split at hl
      · rename_i z; rw [← r.length]; exact z
      · cases hl
    · rename_i hl
      split at hl
      · rename_i z; rw [← r.length]; exact z
      · cases hl
    · exact q.elim
  · obtain ⟨G, h, ps', hp, tb, r, q⟩ := h
    have hx : (cxOf (L2.CX Z.P Z.w) Z.P Z.w Z.K Z.mg Z.base N qual (defScope st) f cdv A outer s H Ex).xe = _ := rfl
    have amb : Amb Z (cxOf (L2.CX Z.P Z.w) Z.P Z.w Z.K Z.mg Z.base N qual (defScope st) f cdv A outer s H Ex) (fun c d _ H' => Ex c d H') N (defScope st) (fun _ => true) k :=
      ⟨rfl, rfl, ⟨rfl, rfl, rfl, rfl, rfl⟩, rfl, S.nd, rfl, hr, takes_of rfl rfl rfl rfl, passes_of rfl⟩
    refine ⟨_, (hb _ ⟨G, H, Z.T, tb⟩ _ amb rfl).ps, ?_⟩
    by_cases hl : ps'.length = ps.length
    · refine ⟨G, ⟨ps'.map (fun p => some (LV.v p)) ++ List.replicate (N.length - ps.length) none, h⟩, start_rep hp r tb hl rfl, ?_⟩
      unfold runDef at q
      rw [if_pos hl] at q
      generalize fb ⟨ps'.map (fun p => some (LV.v p)) ++ List.replicate (N.length - ps.length) none, h⟩ = z at q
      cases z with
      | nx M => exact fun G' s' H' x R' => q G' H' _ R'.post R'.hp (show RepV Z.K G' H' .non .non by simp only [RepV])
      | ret e M =>
        intro G' s' H' u R' ru
        cases e with
        | v p => exact q G' H' u R'.post R'.hp ru
        | fr o =>
          obtain ⟨a, w, e, h1, ro, hn, nf, nl, no, _⟩ := ru
          exact q G' H' u R'.post R'.hp ⟨a, w, e, h1, ro, hn, nf, nl⟩
        | sl i => exact q.elim
      | exn c M => exact fun G' s' H' C _ R' m => q G' H' C R'.post R'.hp m
      | brk M => exact q.elim
      | cnt M => exact q.elim
      | bad => exact q.elim
    · unfold runDef at q
      rw [if_neg hl] at q
      exact q.elim
end
end HF

end
section
set_option Elab.async false
set_option linter.all false
set_option maxRecDepth 20000
set_option autoImplicit false
/-! HF9: built-in functions; methods of lists and texts. -/
namespace HF
open PySem PySem.Spec PyProof.Rows L2
section
variable {X : Cx} {E : Ent} {W : WX} {N : List Str} {sc : Scope} {fs : Str → Bool} {k : Nat} {Z : Wd}
theorem Amb.no (A : Amb Z X W N sc fs k) {x : Str} (h : Z.mg x = none) : X.mg x = none := by rw [A.same.2.2.2.1]; exact h

/-! ### one argument -/
abbrev Op1 := EV → Mem → Option EV
@[simp] def e1 (op : Op1) (f : Sm EV) : Sm EV := fun M => (f M).bnd fun x M1 => optR (op x M1) M1
def Op1Ok (X : Cx) (r : V → Hp → VK → Prop) (op : Op1) : Prop := ∀ (E : Ent) (s : L2.St) (G : Gh) (M : Mem) (H H0 : Hp) (x : EV) (u : V) (ev : EV) (Q : VK), StRep X.K E G M s H → (∀ a, H a = none → H0 a = none) →
  RepE X.K E H0 G M s H x u → op x M = some ev → (∀ G' H' w, Evo s G M H G' M H' → StRep X.K E G' M s H' → RepE X.K E H0 G' M s H' ev w → Q w H') → r u H Q
theorem Op1Ok.or {r r' : V → Hp → VK → Prop} {o o' : Op1} (h : Op1Ok X r o) (h' : Op1Ok X r' o') : Op1Ok X (fun x H Q => r x H Q ∨ r' x H Q) (fun x M => (o x M).or (o' x M)) := by
  intro E s G M H H0 x u ev Q R d rx e q
  simp only at e
  cases e1 : o x M with
  | some w =>
    rw [e1] at e
    cases e
    exact .inl (h E s G M H H0 x u _ Q R d rx e1 q)
  | none =>
    rw [e1] at e
    exact .inr (h' E s G M H H0 x u ev Q R d rx e q)
theorem tE_op1 {f : Sm EV} {r : V → Hp → VK → Prop} {op : Op1} (ok : Op1Ok X r op) {s : L2.St} {H : Hp} {Q : VK} (h : tE X E W (e1 op f) s H Q) : tE X E W f s H fun x H1 => r x H1 Q := by
  obtain ⟨G, M, R, h⟩ := h
  refine tE_one R h fun G1 M1 H1 x u V1 R1 rx h1 => ?_
  cases eo : op x M1 with
  | none => rw [eo] at h1; exact h1.elim
  | some ev =>
    rw [eo] at h1
    exact ok E s G1 M1 H1 H x u ev Q R1 V1.dom rx eo fun G' H' w V3 R3 rw' => h1 G' H' V3 R3 w rw'
section
variable {e e' : Expr} {f g : Sm EV} {x : Str} {id T : String} {p pos : Pos}
theorem fe_b1 (A : Amb Z X W N sc fs k) {r : List V → Hp → VK → Prop} {op : Op1} (hc : CallR X (.builtin id) r) (ok : Op1Ok X (fun u => r [u]) op) (hm : Z.mg x = none) (hv : bootBuiltins x = some (.builtin id)) (he : FE X E W e f)
    (hg : sc.names.lookup x = some .globalImplicit) (hn : x ≠ "__name__") (hdb : (x == ("__debug__" : Str)) = false) (h1 : starEach [e] X.env = (false, eval e X.env) :: starEach [] X.env := by rfl) : FE X E W (.Call (.Name x p) [e] [] pos) (e1 op f) :=
  ⟨PE.weak (pe_callB hc (A.gl hg) (A.no hm) hv (pa_cons he.pe pa_nil h1) hn hdb h1) fun _ _ _ h => tE_op1 ok h⟩
theorem fe_t1 (A : Amb Z X W N sc fs k) {r : List V → Hp → VK → Prop} {op : Op1} (hc : CallR X (.type T) r) (ok : Op1Ok X (fun u => r [u]) op) (hm : Z.mg x = none) (hv : bootBuiltins x = some (.type T)) (he : FE X E W e f)
    (hg : sc.names.lookup x = some .globalImplicit) (hn : x ≠ "__name__") (hdb : (x == ("__debug__" : Str)) = false) (h1 : starEach [e] X.env = (false, eval e X.env) :: starEach [] X.env := by rfl) : FE X E W (.Call (.Name x p) [e] [] pos) (e1 op f) :=
  ⟨PE.weak (pe_callTy hc (A.gl hg) (A.no hm) hv (pa_cons he.pe pa_nil h1) hn hdb h1) fun _ _ _ h => tE_op1 ok h⟩
theorem tE_op2 {r : R2} {op : Op2} (ok : Op2Ok X r op) {s : L2.St} {H : Hp} {Q : VK} (h : tE X E W (e2 op f g) s H Q) : tE X E W f s H fun x H1 => tE X E W g s H1 fun y H2 => r x y H2 Q := tE_two ok h
theorem fe_b2 (A : Amb Z X W N sc fs k) {r : List V → Hp → VK → Prop} {op : Op2} (hc : CallR X (.builtin id) r) (ok : Op2Ok X (fun u v => r [u, v]) op) (hm : Z.mg x = none) (hv : bootBuiltins x = some (.builtin id)) (he : FE X E W e f) (he' : FE X E W e' g)
    (hg : sc.names.lookup x = some .globalImplicit) (hn : x ≠ "__name__") (hdb : (x == ("__debug__" : Str)) = false) (h1 : starEach [e, e'] X.env = (false, eval e X.env) :: starEach [e'] X.env := by rfl) (h2 : starEach [e'] X.env = (false, eval e' X.env) :: starEach [] X.env := by rfl)
    (hpl : (backTo pos (starEach [e'] X.env)).any (fun z => z.1) = false := by rfl) : FE X E W (.Call (.Name x p) [e, e'] [] pos) (e2 op f g) :=
  ⟨PE.weak (pe_callB hc (A.gl hg) (A.no hm) hv (pa_cons he.pe (pa_cons he'.pe pa_nil h2) h1) hn hdb h1 hpl) fun _ _ _ h => tE_op2 ok h⟩
end
/-! len -/
@[simp] def opLen : Op1 := fun x M => match x with
  | .v (.tup xs) => some (.v (.int xs.length))
  | .v (.str z) => if z.length ≤ sizeLine then some (.v (.int z.length)) else none
  | x => match asLst M x with
    | some xs => some (.v (.int xs.length))
    | none => match asDct M x with
      | some (ks, _) => some (.v (.int ks.length))
      | none => none
def rLenR (K : PySem.W.Frag) : List V → Hp → VK → Prop := fun xs H Q => (∃ p ys, xs = [.ref p] ∧ (SqL K H p ys ∨ SqT K H p ys) ∧ Q (.int ys.length) H) ∨ (∃ z, xs = [.str z] ∧ z.length ≤ sizeLine ∧ Q (.int z.length) H) ∨ ∃ a kvs, xs = [V.ref a] ∧ Rd H a (.dK kvs) ∧ Q (.int kvs.length) H
theorem call_lenR : CallR X (.builtin "len") (rLenR X.K) := by
  refine CallR.or call_len_seq (CallR.or call_len_str ?_)
  intro pins s σ H xs us Q I r h
  obtain ⟨a, kvs, rfl, ha, q⟩ := h
  obtain ⟨u, rfl, ru⟩ := vals1 r
  cases ru
  exact d_len I ha fun t s' I' => ⟨.int kvs.length, H, I', ⟨t, rfl⟩, q⟩
theorem repV_int {E : Ent} {H0 : Hp} {G : Gh} {M : Mem} {s : L2.St} {H : Hp} {i : Int} : RepE X.K E H0 G M s H (.v (.int i)) (.int i) := show RepV X.K G H (.int i) _ by simp only [RepV]
theorem opLen_ok : Op1Ok X (fun u => rLenR X.K [u]) opLen := by
  intro E s G M H H0 x u ev Q R d rx e q
  have fin : ∀ {n m : Nat}, ev = .v (.int n) → n = m → Q (.int m) H := fun {n m} e h => q G H _ (Evo.refl _ _ _ _) R (by subst e; subst h; exact repV_int)
  simp only [opLen] at e
  split at e
  · cases e
    obtain ⟨a, us, rfl, ha, ra, za⟩ := repE_tup rx
    exact .inl ⟨a, us, rfl, .inr ha, fin rfl ra.length⟩
  · split at e
    · rename_i z hz
      cases e
      exact .inr (.inl ⟨_, by rw [repE_str rx], hz, fin rfl rfl⟩)
    · cases e
  · split at e
    · rename_i xs e1
      cases e
      obtain ⟨a, us, rfl, ha, ra, za⟩ := lst_of R rx e1
      exact .inl ⟨a, us, rfl, .inl ha, fin rfl ra.length⟩
    · split at e
      · rename_i ks xs e1
        cases e
        obtain ⟨a, kvs, rfl, hr, hk, rr, z⟩ := dct_of R rx e1
        exact .inr (.inr ⟨a, kvs, rfl, hr, fin rfl (by rw [← hk]; simp)⟩)
      · cases e
/-! list, tuple -/
@[simp] def opLst : Op1 := fun x M => match x with
  | .v (.tup xs) => some (.fr (.lst xs))
  | x => (asLst M x).map fun xs => .fr (.lst xs)
theorem opLst_ok : Op1Ok X (fun u H Q => ∃ p ys, [u] = [V.ref p] ∧ (SqL X.K H p ys ∨ SqT X.K H p ys) ∧ ∀ l, H l = none → Q (.ref l) (upd H l (.lst ys))) opLst := by
  intro E s G M H H0 x u ev Q R d rx e q
  have go : ∀ {xs a us}, ev = .fr (.lst xs) → RepVs X.K G H xs us → us.length ≤ sizeLine → u = .ref a → (SqL X.K H a us ∨ SqT X.K H a us) → ∃ p ys, [u] = [V.ref p] ∧ (SqL X.K H p ys ∨ SqT X.K H p ys) ∧ ∀ l, H l = none → Q (.ref l) (upd H l (.lst ys)) := fun {xs a us} e rr z eu h =>
    ⟨a, us, by rw [eu], h, fun l hl => by
      obtain ⟨V1, R1, r1⟩ := rep_newlst (H0 := H0) R d rr z hl
      exact q G _ _ V1 R1 (by rw [e]; exact r1)⟩
  simp only [opLst] at e
  split at e
  · cases e
    obtain ⟨a, us, eu, ha, ra, za⟩ := repE_tup rx
    exact go rfl ra za eu (.inr ha)
  · cases e1 : asLst M x with
    | none => rw [e1] at e; cases e
    | some xs =>
      rw [e1] at e; cases e
      obtain ⟨a, us, eu, ha, ra, za⟩ := lst_of R rx e1
      exact go rfl ra za eu (.inl ha)
@[simp] def opTupOf : Op1 := fun x M => match x with
  | .v (.tup xs) => some (.v (.tup xs))
  | x => (asLst M x).map fun xs => .v (.tup xs)
theorem opTupOf_ok : Op1Ok X (fun u H Q => ∃ p ys, [u] = [V.ref p] ∧ ((SqL X.K H p ys ∧ ∀ l, H l = none → Q (.ref l) (upd H l (.tup ys))) ∨ (SqT X.K H p ys ∧ Q (.ref p) H))) opTupOf := by
  intro E s G M H H0 x u ev Q R d rx e q
  simp only [opTupOf] at e
  split at e
  · cases e
    obtain ⟨a, us, rfl, ha, ra, za⟩ := repE_tup rx
    exact ⟨a, us, rfl, .inr ⟨ha, q G H _ (Evo.refl _ _ _ _) R rx⟩⟩
  · cases e1 : asLst M x with
    | none => rw [e1] at e; cases e
    | some xs =>
      rw [e1] at e; cases e
      obtain ⟨a, us, rfl, ha, ra, za⟩ := lst_of R rx e1
      refine ⟨a, us, rfl, .inl ⟨ha, fun l hl => ?_⟩⟩
      obtain ⟨V1, R1, r1⟩ := rep_newtup R ra za hl
      exact q _ _ _ V1 R1 r1
/-! max, min of two; of a list; sum; all, any -/
def opMax2 : Op2 := opI2' fun i j => if j > i then j else i
@[simp] theorem opMax2_at (x y : EV) (M : Mem) : opMax2 x y M = (opI2' fun i j => if j > i then j else i) x y M := rfl
def opMin2 : Op2 := opI2' fun i j => if j < i then j else i
@[simp] theorem opMin2_at (x y : EV) (M : Mem) : opMin2 x y M = (opI2' fun i j => if j < i then j else i) x y M := rfl
theorem opI2b_ok {f : Int → Int → Int} : Op2Ok X (fun u v H Q => ∃ i j, [u, v] = [V.int i, V.int j] ∧ Q (.int (f i j)) H) (opI2' f) := by
  intro E s G M H H0 x y u v ev Q R d rx ry e q
  obtain ⟨i, j, h1, h2, h3⟩ := opI2'_ok E s G M H H0 x y u v ev Q R d rx ry e q
  exact ⟨i, j, by rw [h1, h2], h3⟩
@[simp] def asInts : List PV → Option (List Int)
  | [] => some []
  | .int i :: r => (asInts r).map (i :: ·)
  | _ => none
theorem asInts_map (ns : List Int) : asInts (ns.map PV.int) = some ns := by
  induction ns with
  | nil => rfl
  | cons n ns ih => simp [ih]
theorem asInts_rep {G : Gh} {H : Hp} : ∀ {xs : List PV} {us : List V} {ns : List Int}, asInts xs = some ns → RepVs X.K G H xs us → us = ns.map V.int
  | [], us, ns, e, r => by cases e; rw [RepVs.nil_iff.mp r]; rfl
  | x :: xs, us, ns, e, r => by
    obtain ⟨u, ws, rfl, r1, r2⟩ := RepVs.cons_iff.mp r
    cases x <;> simp only [asInts] at e <;> try cases e
    rename_i i
    cases e1 : asInts xs with
    | none => rw [e1] at e; cases e
    | some ms =>
      rw [e1] at e; cases e
      rw [asInts_rep e1 r2, ints_rep.mp r1]
      rfl
@[simp] def asBls : List PV → Option (List Bool)
  | [] => some []
  | .bl i :: r => (asBls r).map (i :: ·)
  | _ => none
theorem asBls_map (ns : List Bool) : asBls (ns.map PV.bl) = some ns := by
  induction ns with
  | nil => rfl
  | cons n ns ih => simp [ih]
theorem asBls_rep {G : Gh} {H : Hp} : ∀ {xs : List PV} {us : List V} {ns : List Bool}, asBls xs = some ns → RepVs X.K G H xs us → us = ns.map V.bl
  | [], us, ns, e, r => by cases e; rw [RepVs.nil_iff.mp r]; rfl
  | x :: xs, us, ns, e, r => by
    obtain ⟨u, ws, rfl, r1, r2⟩ := RepVs.cons_iff.mp r
    cases x <;> simp only [asBls] at e <;> try cases e
    rename_i i
    cases e1 : asBls xs with
    | none => rw [e1] at e; cases e
    | some ms =>
      rw [e1] at e; cases e
      simp only [RepV] at r1
      rw [asBls_rep e1 r2, r1]
      rfl
@[simp] def asStrs : List PV → Option (List Str)
  | [] => some []
  | .str i :: r => (asStrs r).map (i :: ·)
  | _ => none
theorem asStrs_map (ns : List Str) : asStrs (ns.map PV.str) = some ns := by
  induction ns with
  | nil => rfl
  | cons n ns ih => simp [ih]
theorem asStrs_rep {G : Gh} {H : Hp} : ∀ {xs : List PV} {us : List V} {ns : List Str}, asStrs xs = some ns → RepVs X.K G H xs us → us = ns.map V.str
  | [], us, ns, e, r => by cases e; rw [RepVs.nil_iff.mp r]; rfl
  | x :: xs, us, ns, e, r => by
    obtain ⟨u, ws, rfl, r1, r2⟩ := RepVs.cons_iff.mp r
    cases x <;> simp only [asStrs] at e <;> try cases e
    rename_i i
    cases e1 : asStrs xs with
    | none => rw [e1] at e; cases e
    | some ms =>
      rw [e1] at e; cases e
      simp only [RepV] at r1
      rw [asStrs_rep e1 r2, r1]
      rfl
/-- the greatest -/
def maxOf : List Int → Int
  | [] => 0
  | [n] => n
  | n :: m :: r => max n (maxOf (m :: r))
theorem maxOf_mem : ∀ {ns : List Int}, ns ≠ [] → maxOf ns ∈ ns ∧ ∀ y ∈ ns, y ≤ maxOf ns
  | [], h => absurd rfl h
  | [n], _ => by simp [maxOf]
  | n :: m :: r, _ => by
    obtain ⟨h1, h2⟩ := maxOf_mem (ns := m :: r) (by simp)
    unfold maxOf
    refine ⟨?_, fun y hy => ?_⟩
    · by_cases h : n ≤ maxOf (m :: r)
      · rw [Int.max_eq_right h]; exact List.mem_cons_of_mem _ h1
      · rw [Int.max_eq_left (by omega)]; exact List.mem_cons_self
    · rcases List.mem_cons.mp hy with z | z
      · subst z; omega
      · have := h2 y z; omega
@[simp] def opMax1 : Op1 := fun x M => match (asLst M x).bind asInts with
  | some (n :: ns) => some (.v (.int (maxOf (n :: ns))))
  | _ => none
theorem opMax1_ok : Op1Ok X (fun u => rMax X.K [u]) opMax1 := by
  intro E s G M H H0 x u ev Q R d rx e q
  simp only [opMax1] at e
  cases e1 : asLst M x with
  | none => rw [e1] at e; cases e
  | some xs =>
    rw [e1] at e
    simp only [Option.bind_some] at e
    split at e
    · rename_i n ns e2
      cases e
      obtain ⟨a, us, rfl, ha, ra, za⟩ := lst_of R rx e1
      have eu := asInts_rep e2 ra
      subst eu
      refine ⟨a, n :: ns, rfl, ha, by simp, fun m hm hb => ?_⟩
      obtain ⟨h1, h2⟩ := maxOf_mem (ns := n :: ns) (by simp)
      have em : m = maxOf (n :: ns) := Int.le_antisymm (h2 m hm) (hb _ h1)
      exact q G H _ (Evo.refl _ _ _ _) R (by rw [em]; exact repV_int)
    · cases e
@[simp] def opSum : Op1 := fun x M => ((asLst M x).bind asInts).map fun ns => .v (.int ns.sum)
theorem opSum_ok : Op1Ok X (fun u => rSum X.K [u]) opSum := by
  intro E s G M H H0 x u ev Q R d rx e q
  simp only [opSum] at e
  cases e1 : asLst M x with
  | none => rw [e1] at e; cases e
  | some xs =>
    rw [e1] at e
    simp only [Option.bind_some] at e
    cases e2 : asInts xs with
    | none => rw [e2] at e; cases e
    | some ns =>
      rw [e2] at e; cases e
      obtain ⟨a, us, rfl, ha, ra, za⟩ := lst_of R rx e1
      have eu := asInts_rep e2 ra
      subst eu
      exact ⟨a, ns, rfl, ha, q G H _ (Evo.refl _ _ _ _) R repV_int⟩
@[simp] def opAll : Op1 := fun x M => ((asLst M x).bind asBls).map fun ns => .v (.bl (ns.all id))
@[simp] def opAny : Op1 := fun x M => ((asLst M x).bind asBls).map fun ns => .v (.bl (ns.any id))
theorem opAll_ok : Op1Ok X (fun u => rAll X.K [u]) opAll := by
  intro E s G M H H0 x u ev Q R d rx e q
  simp only [opAll] at e
  cases e1 : asLst M x with
  | none => rw [e1] at e; cases e
  | some xs =>
    rw [e1] at e
    simp only [Option.bind_some] at e
    cases e2 : asBls xs with
    | none => rw [e2] at e; cases e
    | some ns =>
      rw [e2] at e; cases e
      obtain ⟨a, us, rfl, ha, ra, za⟩ := lst_of R rx e1
      have eu := asBls_rep e2 ra
      subst eu
      exact ⟨a, ns, rfl, ha, q G H _ (Evo.refl _ _ _ _) R repE_blI⟩
theorem opAny_ok : Op1Ok X (fun u => rAny X.K [u]) opAny := by
  intro E s G M H H0 x u ev Q R d rx e q
  simp only [opAny] at e
  cases e1 : asLst M x with
  | none => rw [e1] at e; cases e
  | some xs =>
    rw [e1] at e
    simp only [Option.bind_some] at e
    cases e2 : asBls xs with
    | none => rw [e2] at e; cases e
    | some ns =>
      rw [e2] at e; cases e
      obtain ⟨a, us, rfl, ha, ra, za⟩ := lst_of R rx e1
      have eu := asBls_rep e2 ra
      subst eu
      exact ⟨a, ns, rfl, ha, q G H _ (Evo.refl _ _ _ _) R repE_blI⟩
section
variable {e e' : Expr} {f g : Sm EV} {p pos : Pos}
theorem fe_len (A : Amb Z X W N sc fs k) (hm : Z.mg ("len" : Str) = none) (he : FE X E W e f) (hg : sc.names.lookup ("len" : Str) = some .globalImplicit := by rfl) (h1 : starEach [e] X.env = (false, eval e X.env) :: starEach [] X.env := by rfl) : FE X E W (.Call (.Name "len" p) [e] [] pos) (e1 opLen f) :=
  fe_b1 A call_lenR opLen_ok hm PySem.boot_len he hg (by decide) (by decide) h1
theorem fe_list (A : Amb Z X W N sc fs k) (hm : Z.mg ("list" : Str) = none) (he : FE X E W e f) (hg : sc.names.lookup ("list" : Str) = some .globalImplicit := by rfl) (h1 : starEach [e] X.env = (false, eval e X.env) :: starEach [] X.env := by rfl) : FE X E W (.Call (.Name "list" p) [e] [] pos) (e1 opLst f) :=
  fe_t1 A call_list_of opLst_ok hm PyProof.Rows.boot_list he hg (by decide) (by decide) h1
theorem fe_tuple (A : Amb Z X W N sc fs k) (hm : Z.mg ("tuple" : Str) = none) (he : FE X E W e f) (hg : sc.names.lookup ("tuple" : Str) = some .globalImplicit := by rfl) (h1 : starEach [e] X.env = (false, eval e X.env) :: starEach [] X.env := by rfl) : FE X E W (.Call (.Name "tuple" p) [e] [] pos) (e1 opTupOf f) :=
  fe_t1 A call_tuple_of opTupOf_ok hm PyProof.Rows.boot_tuple he hg (by decide) (by decide) h1
theorem fe_max1 (A : Amb Z X W N sc fs k) (hm : Z.mg ("max" : Str) = none) (he : FE X E W e f) (hg : sc.names.lookup ("max" : Str) = some .globalImplicit := by rfl) (h1 : starEach [e] X.env = (false, eval e X.env) :: starEach [] X.env := by rfl) : FE X E W (.Call (.Name "max" p) [e] [] pos) (e1 opMax1 f) :=
  fe_b1 A (cr_max A.calm) opMax1_ok hm PyProof.Rows.boot_max he hg (by decide) (by decide) h1
theorem fe_sum (A : Amb Z X W N sc fs k) (hm : Z.mg ("sum" : Str) = none) (he : FE X E W e f) (hg : sc.names.lookup ("sum" : Str) = some .globalImplicit := by rfl) (h1 : starEach [e] X.env = (false, eval e X.env) :: starEach [] X.env := by rfl) : FE X E W (.Call (.Name "sum" p) [e] [] pos) (e1 opSum f) :=
  fe_b1 A (cr_sum A.calm) opSum_ok hm PyProof.Rows.boot_sum he hg (by decide) (by decide) h1
theorem fe_all (A : Amb Z X W N sc fs k) (hm : Z.mg ("all" : Str) = none) (he : FE X E W e f) (hg : sc.names.lookup ("all" : Str) = some .globalImplicit := by rfl) (h1 : starEach [e] X.env = (false, eval e X.env) :: starEach [] X.env := by rfl) : FE X E W (.Call (.Name "all" p) [e] [] pos) (e1 opAll f) :=
  fe_b1 A (cr_all A.calm) opAll_ok hm (by decide +kernel) he hg (by decide) (by decide) h1
theorem fe_any (A : Amb Z X W N sc fs k) (hm : Z.mg ("any" : Str) = none) (he : FE X E W e f) (hg : sc.names.lookup ("any" : Str) = some .globalImplicit := by rfl) (h1 : starEach [e] X.env = (false, eval e X.env) :: starEach [] X.env := by rfl) : FE X E W (.Call (.Name "any" p) [e] [] pos) (e1 opAny f) :=
  fe_b1 A (cr_any A.calm) opAny_ok hm (by decide +kernel) he hg (by decide) (by decide) h1
theorem fe_max2 (A : Amb Z X W N sc fs k) (hm : Z.mg ("max" : Str) = none) (he : FE X E W e f) (he' : FE X E W e' g) (hg : sc.names.lookup ("max" : Str) = some .globalImplicit := by rfl) (h1 : starEach [e, e'] X.env = (false, eval e X.env) :: starEach [e'] X.env := by rfl) (h2 : starEach [e'] X.env = (false, eval e' X.env) :: starEach [] X.env := by rfl)
    (hpl : (backTo pos (starEach [e'] X.env)).any (fun z => z.1) = false := by rfl) : FE X E W (.Call (.Name "max" p) [e, e'] [] pos) (e2 opMax2 f g) :=
  fe_b2 A (call_max2 A.calm) opI2b_ok hm PyProof.Rows.boot_max he he' hg (by decide) (by decide) h1 h2 hpl
theorem fe_min2 (A : Amb Z X W N sc fs k) (hm : Z.mg ("min" : Str) = none) (he : FE X E W e f) (he' : FE X E W e' g) (hg : sc.names.lookup ("min" : Str) = some .globalImplicit := by rfl) (h1 : starEach [e, e'] X.env = (false, eval e X.env) :: starEach [e'] X.env := by rfl) (h2 : starEach [e'] X.env = (false, eval e' X.env) :: starEach [] X.env := by rfl)
    (hpl : (backTo pos (starEach [e'] X.env)).any (fun z => z.1) = false := by rfl) : FE X E W (.Call (.Name "min" p) [e, e'] [] pos) (e2 opMin2 f g) :=
  fe_b2 A (call_min2 A.calm) opI2b_ok hm PyProof.Rows.boot_min he he' hg (by decide) (by decide) h1 h2 hpl
end
/-! isinstance with a built-in class -/
@[simp] def tyName (M : Mem) : EV → Option String
  | .v .non => some "NoneType"
  | .v (.bl _) => some "bool"
  | .v (.int _) => some "int"
  | .v (.str _) => some "str"
  | .v (.tup _) => some "tuple"
  | .v (.lst _) => some "list"
  | .v (.rol _) => some "list"
  | .v (.dct _ _) => some "dict"
  | .v (.con _) => none
  | e => match asLst M e with
    | some _ => some "list"
    | none => match asDct M e with
      | some _ => some "dict"
      | none => none
theorem tyName_rep {E : Ent} {H0 : Hp} {G : Gh} {M : Mem} {s : L2.St} {H : Hp} {e : EV} {u : V} {t : String} (R : StRep X.K E G M s H) (r : RepE X.K E H0 G M s H e u) (h : tyName M e = some t) : TyX X.K H u (.type t) := by
  have lst : ∀ {a us}, SqL X.K H a us → TyX X.K H (.ref a) (.type "list") := fun {a us} q => by
    rcases q with (q | ⟨o, q⟩) | ⟨o, its, n, q, c, _⟩
    · exact .base (.lst q)
    · exact .base (.frz q)
    · exact .kList q c
  have dct : ∀ {a kvs}, Rd H a (.dK kvs) → TyX X.K H (.ref a) (.type "dict") := fun {a kvs} q => by
    rcases q with q | ⟨o, q⟩
    · exact .base (.dK q)
    · exact .fDict q
  have oth : ∀ {e : EV}, RepE X.K E H0 G M s H e u → (match asLst M e with | some _ => some "list" | none => match asDct M e with | some _ => some "dict" | none => none) = some t → TyX X.K H u (.type t) := fun {e} r h => by
    split at h
    · rename_i xs e1
      cases h
      obtain ⟨a, us, rfl, ha, _⟩ := lst_of R r e1
      exact lst ha
    · split at h
      · rename_i z e1
        cases h
        obtain ⟨ks, xs⟩ := z
        obtain ⟨a, us, rfl, ha, _⟩ := dct_of R r e1
        exact dct ha
      · cases h
  cases e with
  | v p =>
    have rv : RepV X.K G H p u := r
    cases p with
    | non => simp only [RepV] at rv; subst rv; cases h; exact .base .non
    | bl b => simp only [RepV] at rv; subst rv; cases h; exact .base (.bl b)
    | int b => simp only [RepV] at rv; subst rv; cases h; exact .base (.int b)
    | str b => simp only [RepV] at rv; subst rv; cases h; exact .base (.str b)
    | tup b =>
      cases h
      obtain ⟨a, us, rfl, q, _⟩ := tup_of rv
      rcases q with (q | ⟨o, q⟩) | ⟨o, its, n, q, c, _⟩
      · exact .base (.tup q)
      · exact .fTuple q
      · exact .kTuple q c
    | lst b => cases h; obtain ⟨a, us, rfl, ha, _⟩ := lst_of (xs := b) R r rfl; exact lst ha
    | rol b => cases h; obtain ⟨a, us, rfl, ha, _⟩ := lst_of (xs := b) R r rfl; exact lst ha
    | dct b c => cases h; obtain ⟨a, us, rfl, ha, _⟩ := dct_of (ks := b) (xs := c) R r rfl; exact dct ha
    | con a => cases h
    | exc a => cases h
    | fn a => cases h
    | ref c => exact oth r h
  | fr o => exact oth r h
  | sl i => exact oth r h
@[simp] def opIsi (T : String) : Op1 := fun x M => match tyName M x with
  | some t => (kitB t T).map fun b => .v (.bl b)
  | none => none
theorem fe_isi (A : Amb Z X W N sc fs k) {T : String} {x : Str} {e : Expr} {f : Sm EV} {p p2 pos : Pos} (hm : Z.mg ("isinstance" : Str) = none) (hmT : Z.mg x = none) (hv : bootBuiltins x = some (.type T)) (he : FE X E W e f) (hg : sc.names.lookup ("isinstance" : Str) = some .globalImplicit := by rfl) (hgT : sc.names.lookup x = some .globalImplicit := by rfl)
    (hn : x ≠ "__name__" := by decide) (hdb : (x == ("__debug__" : Str)) = false := by decide) (h1 : starEach [e, .Name x p2] X.env = (false, eval e X.env) :: starEach [.Name x p2] X.env := by rfl) : FE X E W (.Call (.Name "isinstance" p) [e, .Name x p2] [] pos) (e1 (opIsi T) f) := by
  refine ⟨PE.weak (pe_callB call_isi (A.gl hg) (A.no hm) PyProof.Rows.boot_isinstance (pa_cons he.pe (pa_cons (pe_bltn (v := .ty T) (A.gl hgT) (A.no hmT) hv rfl hn hdb) pa_nil) h1) (by decide) (by decide) h1) ?_⟩
  intro s H Q h
  refine tE_op1 (r := fun u H Q => rIsi X.K [u, .ty T] H Q) (fun E s G M H H0 x u ev Q R d rx e q => ?_) h
  simp only [opIsi] at e
  cases e1 : tyName M x with
  | none => rw [e1] at e; cases e
  | some t =>
    rw [e1] at e
    cases e2 : kitB t T with
    | none => simp only [e2] at e; cases e
    | some b =>
      simp only [e2] at e; cases e
      exact ⟨u, .ty T, .type t, .type T, b, rfl, .ty T, tyName_rep R rx e1, kit_ty e2, q G H _ (Evo.refl _ _ _ _) R repE_blI⟩
theorem boot_tint : bootBuiltins ("int" : Str) = some (.type "int") := PyProof.Rows.boot_int
theorem boot_tbool : bootBuiltins ("bool" : Str) = some (.type "bool") := PyProof.Rows.boot_bool
theorem boot_tstr : bootBuiltins ("str" : Str) = some (.type "str") := PyProof.Rows.boot_str
theorem boot_ttuple : bootBuiltins ("tuple" : Str) = some (.type "tuple") := PyProof.Rows.boot_tuple
theorem boot_tlist : bootBuiltins ("list" : Str) = some (.type "list") := PyProof.Rows.boot_list
theorem boot_tdict : bootBuiltins ("dict" : Str) = some (.type "dict") := PyProof.Rows.boot_dict
end
end HF

end
section
set_option Elab.async false
set_option linter.all false
set_option maxRecDepth 20000
set_option autoImplicit false
/-! HF10: things that change; join; the end of a law. -/
namespace HF
open PySem PySem.Spec PyProof.Rows L2
section
variable {X : Cx} {E : Ent} {W : WX} {N : List Str} {sc : Scope} {fs : Str → Bool} {k : Nat} {Z : Wd}
@[simp] def mutAt (M : Mem) : EV → Option PO
  | .sl i => match slotAt M i with
    | some (.own o) => some o
    | _ => none
  | .v (.ref r) => cellAt M r
  | _ => none
@[simp] def mutPut (x : EV) (o : PO) (M : Mem) : Mem := match x with
  | .sl i => ⟨M.r.set i (some (.own o)), M.h⟩
  | .v (.ref r) => ⟨M.r, M.h.set r o⟩
  | _ => M
theorem mut_ok {E : Ent} {s : L2.St} {G : Gh} {M : Mem} {H H0 : Hp} {x : EV} {u : V} {o : PO} (R : StRep X.K E G M s H) (rx : RepE X.K E H0 G M s H x u) (h : mutAt M x = some o) :
    ∃ a w, u = .ref a ∧ H a = some w ∧ RepO X.K G H o w ∧ ¬ G.F a ∧ ∀ o' w', RepO X.K G H o' w' → StRep X.K E G (mutPut x o' M) s (upd H a w') ∧ Evo s G M H G (mutPut x o' M) (upd H a w') := by
  cases x with
  | v p =>
    cases p <;> simp only [mutAt] at h <;> try cases h
    rename_i r
    have rx : RepV X.K G H (.ref r) u := rx
    simp only [RepV] at rx
    obtain ⟨a, rfl, ha⟩ := rx
    have hr : M.h[r]? = some o := h
    obtain ⟨nf, w, h1, h2⟩ := R.hp.obj r a o ha hr
    exact ⟨a, w, rfl, h1, h2, nf, fun o' w' ro => R.celled hr ha ro⟩
  | fr o => cases h
  | sl i =>
    simp only [mutAt] at h
    split at h
    · rename_i eo
      cases h
      have ei := slotAt_some eo
      obtain ⟨a, w, e1, h1, h2, h3, h4, h5⟩ := R.own i o ei
      have rx : s[i]? = some (some u) := rx
      rw [e1] at rx; cases rx
      exact ⟨a, w, rfl, h1, h2, h4, fun o' w' ro => R.wrote ei e1 ro⟩
    · cases h
theorem repE_non {E : Ent} {H0 : Hp} {G : Gh} {M : Mem} {s : L2.St} {H : Hp} : RepE X.K E H0 G M s H (.v .non) .non := show RepV X.K G H .non _ by simp only [RepV]

/-! ### methods of lists -/
/-- a list's method of one argument: the list behind it, what is told -/
@[simp] def eM1 (op : List PV → EV → Mem → Option (List PV × PV)) (f g : Sm EV) : Sm EV := fun M => (f M).bnd fun x M1 => match asLst M1 x with
  | none => .bad
  | some _ => (g M1).bnd fun y M2 => match mutAt M2 x with
    | some (.lst xs) => match op xs y M2 with
      | some (ys, p) => .ok (.v p) (mutPut x (.lst ys) M2)
      | none => .bad
    | _ => .bad
def M1Ok (X : Cx) (r : V → List V → Hp → VK → Prop) (op : List PV → EV → Mem → Option (List PV × PV)) : Prop := ∀ (E : Ent) (s : L2.St) (G : Gh) (M : Mem) (H H0 : Hp) (a : Addr) (us : List V) (xs ys : List PV) (y : EV) (v : V) (p : PV) (Q : VK), StRep X.K E G M s H →
  H a = some (.lst us) → us.length ≤ sizeLine → RepVs X.K G H xs us → RepE X.K E H0 G M s H y v → op xs y M = some (ys, p) → (∀ ws w, RepVs X.K G H ys ws → ws.length ≤ sizeLine → RepV X.K G H p w → Q w (upd H a (.lst ws))) → r (.ref a) [v] H Q
theorem tyL {K : PySem.W.Frag} {H : Hp} {a : Addr} {us : List V} (h : SqL K H a us) : tyV K "list" (.ref a) H := .inl ⟨rfl, us, h⟩
theorem tE_m1 {f g : Sm EV} {r : V → List V → Hp → VK → Prop} {op : List PV → EV → Mem → Option (List PV × PV)} (ok : M1Ok X r op) {s : L2.St} {H : Hp} {Q : VK} (h : tE X E W (eM1 op f g) s H Q) : tBM X.K "list" r (tE X E W f) (tCons (tE X E W g) tNil) s H Q := by
  obtain ⟨G, M, R, h⟩ := h
  refine tE_one R h fun G1 M1 H1 x u V1 R1 rx h1 => ?_
  split at h1
  · exact h1.elim
  · rename_i zs ez
    obtain ⟨b, bs, rfl, hb, _⟩ := lst_of R1 rx ez
    refine ⟨tyL hb, tE_one R1 h1 fun G2 M2 H2 y v V2 R2 ry h2 => ?_⟩
    split at h2
    · rename_i xs em
      obtain ⟨a, w, ea, h3, ⟨us, rfl, z, rr⟩, nf, wr⟩ := mut_ok R2 (rx.evo V2) em
      cases ea
      cases eo : op xs y M2 with
      | none => rw [eo] at h2; exact h2.elim
      | some q =>
        obtain ⟨ys, p⟩ := q
        rw [eo] at h2
        refine ok E s G2 M2 H2 H1 b us xs ys y v p Q R2 h3 z rr ry eo fun ws w rw' zw rp => ?_
        obtain ⟨R3, V3⟩ := wr (.lst ys) (.lst ws) ⟨ws, rfl, zw, rw'⟩
        exact h2 G2 _ V3 R3 w (RepV.mono V3.ext _ _ rp)
    · exact h2.elim
section
variable {o e : Expr} {f g : Sm EV} {apos cpos : Pos} {name : Str} {id : String}
theorem fe_m1 {r : V → List V → Hp → VK → Prop} {op : List PV → EV → Mem → Option (List PV × PV)} (slot : Slot "list" name id) (hty : typeOf (.builtin id) = pure (.type "method_descriptor")) (hm : MtR X id r) (ok : M1Ok X r op) (ho : FE X E W o f) (he : FE X E W e g)
    (hbase : attributeBase o name X.env (eval o X.env) = eval o X.env)
    (hfew : ((backTo cpos (starEach [e] X.env)).all (fun x => !x.1) && (backToKw cpos (keywordEach [] X.env)).all (fun x => x.1.isSome)
      && decide ([e].length + ([] : List Keyword).length + (if ([] : List Keyword).isEmpty then 0 else 1) < 30)) = true)
    (hline : (apos.endLine == cpos.line) = true) (hs : starEach [e] X.env = (false, eval e X.env) :: starEach [] X.env) : FE X E W (.Call (.Attribute o name apos) [e] [] cpos) (eM1 op f g) :=
  ⟨PE.weak (pe_bm PySem.F.plainAttrs_list slot hty hm ho.pe (pa_cons he.pe pa_nil hs) hbase hfew hline hs) fun _ _ _ h => tE_m1 ok h⟩
end
/-- a value beside: frozen or at once -/
@[simp] def evP (M : Mem) (y : EV) : Option PV := match y with
  | .v p => some p
  | _ => none
@[simp] def opApp : List PV → EV → Mem → Option (List PV × PV) := fun xs y M => match evP M y with
  | some p => if xs.length < sizeLine then some (xs ++ [p], .non) else none
  | none => none
theorem opApp_ok : M1Ok X rAppend opApp := by
  intro E s G M H H0 a us xs ys y v p Q R h z rr ry e q
  simp only [opApp] at e
  split at e
  · rename_i p' ep
    split at e
    · rename_i lt
      cases e
      cases y <;> simp only [evP] at ep <;> cases ep
      have lt' : us.length < sizeLine := by rw [← rr.length]; exact lt
      exact ⟨a, us, v, rfl, rfl, h, lt', q _ _ (rr.snoc ry) (by simp; omega) (by simp only [RepV])⟩
    · cases e
  · cases e
/-- extend, by a list that may be known -/
def rExtR : V → List V → Hp → VK → Prop := fun x vs H Q => ∃ l b xs zs, x = .ref l ∧ vs = [.ref b] ∧ H l = some (.lst xs) ∧ Rd H b (.lst zs) ∧ xs.length + zs.length ≤ sizeLine ∧ Q .non (upd H l (.lst (xs ++ zs)))
theorem mt_extR : MtR X "list.extend" rExtR := by
  intro pins s σ H x vs v us Q I rx rv h
  obtain ⟨l, b, xs, zs, rfl, rfl, hH, hB, hz, q⟩ := h
  cases rx
  obtain ⟨u, rfl, ru⟩ := rv.one
  cases ru
  obtain ⟨z, its, n, r, hl, e⟩ := I.lstM hH
  obtain ⟨z2, its2, n2, r2, e2⟩ : ObjOk X.prog X.w H s.heap b (.lst zs) := hB.ok I.hok
  have hl2 := r2.length
  have hsz : its.toArray.size + its2.toArray.size ≤ sizeLine := by rw [List.size_toArray, List.size_toArray]; omega
  have hlong : ¬ (!its.toArray.isEmpty && Builtin.List.listTooLong (its.toArray.size + its2.toArray.size)) = true := by
    rw [notLongL hsz, Bool.and_false]; exact Bool.false_ne_true
  refine call_meets F.slot_list_extend ⟨_, e, rfl⟩ F.entry_list_extend (F.args_list_extend_2 _ _) (AutoSeq1.list_extend_list_list_0 l its.toArray n b its2.toArray n2 hlong (by rw [List.size_toArray]; omega) (by omega)) ⟨e, e2, ?_⟩
  exact ⟨.non, _, I.lset (its' := its ++ its2) hH e (by simp) (r.append r2) (by rw [List.length_append]; omega), rfl, q⟩
@[simp] def opExt : List PV → EV → Mem → Option (List PV × PV) := fun xs y M => match asLstR M y with
  | some zs => if xs.length + zs.length ≤ sizeLine then some (xs ++ zs, .non) else none
  | none => none
theorem opExt_ok : M1Ok X rExtR opExt := by
  intro E s G M H H0 a us xs ys y v p Q R h z rr ry e q
  simp only [opExt] at e
  split at e
  · rename_i zs ez
    split at e
    · rename_i lt
      cases e
      obtain ⟨b, bs, rfl, hb, rb, zb⟩ := lstR_of R ry ez
      have l1 := rr.length
      have l2 := rb.length
      exact ⟨a, b, us, bs, rfl, rfl, h, hb, by omega, q _ _ (rr.append rb) (by rw [List.length_append]; omega) (by simp only [RepV])⟩
    · cases e
  · cases e
/-- pop(i) -/
@[simp] def opPopAt : List PV → EV → Mem → Option (List PV × PV) := fun xs y _ => match y with
  | .v (.int i) => if decide (i.natAbs < 2 ^ 62) = true then (match seqIndex? i xs.length with
    | some k => (xs[k]?).map fun p => (xs.eraseIdx k, p)
    | none => none) else none
  | _ => none
theorem opPopAt_ok : M1Ok X rPopAt opPopAt := by
  intro E s G M H H0 a us xs ys y v p Q R h z rr ry e q
  simp only [opPopAt] at e
  split at e
  · rename_i i
    split at e
    · rename_i hi
      have hi := of_decide_eq_true hi
      split at e
      · rename_i j ej
        cases e1 : xs[j]? with
        | none => rw [e1] at e; cases e
        | some p' =>
          rw [e1] at e; cases e
          obtain ⟨w, e2, rw'⟩ := rr.get e1
          rw [rr.length] at ej
          exact ⟨a, us, i, j, w, rfl, by rw [repE_int ry], h, by omega, by omega, ej, e2, q _ _ (rr.eraseIdx j) (Nat.le_trans (len_erase _ _) z) rw'⟩
      · cases e
    · cases e
  · cases e
section
variable {o e : Expr} {f g : Sm EV} {apos cpos : Pos}
end
end
end HF

end
section
set_option Elab.async false
set_option linter.all false
set_option maxRecDepth 20000
set_option autoImplicit false
/-! HF11: the methods by name; stores by subscript; join; a law's end. -/
namespace HF
open PySem PySem.Spec PyProof.Rows L2
section
variable {X : Cx} {E : Ent} {W : WX} {N : List Str} {sc : Scope} {fs : Str → Bool} {k : Nat} {Z : Wd}
section
variable {o e : Expr} {f g : Sm EV} {h : Sm PV} {apos cpos : Pos}
@[simp] def pV (f : Sm PV) : Sm EV := fun M => (f M).bnd fun p M1 => .ok (.v p) M1
theorem fe_append (ho : FE X E W o f) (he : FP X E W e h) (hbase : attributeBase o "append" X.env (eval o X.env) = eval o X.env := by rfl)
    (hfew : ((backTo cpos (starEach [e] X.env)).all (fun x => !x.1) && (backToKw cpos (keywordEach [] X.env)).all (fun x => x.1.isSome) && decide ([e].length + ([] : List Keyword).length + (if ([] : List Keyword).isEmpty then 0 else 1) < 30)) = true := by rfl)
    (hline : (apos.endLine == cpos.line) = true := by rfl) (hs : starEach [e] X.env = (false, eval e X.env) :: starEach [] X.env := by rfl) : FE X E W (.Call (.Attribute o "append" apos) [e] [] cpos) (eM1 opApp f (pV h)) :=
  fe_m1 PySem.F.slot_list_append PySem.F.type_list_append mt_append opApp_ok ho he.fe hbase hfew hline hs
theorem fe_extend (ho : FE X E W o f) (he : FE X E W e g) (hbase : attributeBase o "extend" X.env (eval o X.env) = eval o X.env := by rfl)
    (hfew : ((backTo cpos (starEach [e] X.env)).all (fun x => !x.1) && (backToKw cpos (keywordEach [] X.env)).all (fun x => x.1.isSome) && decide ([e].length + ([] : List Keyword).length + (if ([] : List Keyword).isEmpty then 0 else 1) < 30)) = true := by rfl)
    (hline : (apos.endLine == cpos.line) = true := by rfl) (hs : starEach [e] X.env = (false, eval e X.env) :: starEach [] X.env := by rfl) : FE X E W (.Call (.Attribute o "extend" apos) [e] [] cpos) (eM1 opExt f g) :=
  fe_m1 PySem.F.slot_list_extend PySem.F.type_list_extend mt_extR opExt_ok ho he hbase hfew hline hs
theorem fe_popAt (ho : FE X E W o f) (he : FE X E W e g) (hbase : attributeBase o "pop" X.env (eval o X.env) = eval o X.env := by rfl)
    (hfew : ((backTo cpos (starEach [e] X.env)).all (fun x => !x.1) && (backToKw cpos (keywordEach [] X.env)).all (fun x => x.1.isSome) && decide ([e].length + ([] : List Keyword).length + (if ([] : List Keyword).isEmpty then 0 else 1) < 30)) = true := by rfl)
    (hline : (apos.endLine == cpos.line) = true := by rfl) (hs : starEach [e] X.env = (false, eval e X.env) :: starEach [] X.env := by rfl) : FE X E W (.Call (.Attribute o "pop" apos) [e] [] cpos) (eM1 opPopAt f g) :=
  fe_m1 PySem.F.slot_list_pop PySem.F.type_list_pop mt_popAt opPopAt_ok ho he hbase hfew hline hs
/-- pop() -/
@[simp] def ePop (f : Sm EV) : Sm EV := fun M => (f M).bnd fun x M1 => match mutAt M1 x with
  | some (.lst xs) => match xs[xs.length - 1]? with
    | some p => .ok (.v p) (mutPut x (.lst xs.dropLast) M1)
    | none => .bad
  | _ => .bad
theorem fe_pop (ho : FE X E W o f) (hbase : attributeBase o "pop" X.env (eval o X.env) = eval o X.env := by rfl) (hline : (apos.endLine == cpos.line) = true := by rfl) : FE X E W (.Call (.Attribute o "pop" apos) [] [] cpos) (ePop f) := by
  refine ⟨PE.weak (pe_bm0 PySem.F.plainAttrs_list PySem.F.slot_list_pop PySem.F.type_list_pop mt_pop ho.pe hbase hline) ?_⟩
  rintro s H Q ⟨G, M, R, h⟩
  refine tE_one R h fun G1 M1 H1 x u V1 R1 rx h1 => ?_
  split at h1
  · rename_i xs em
    obtain ⟨a, w, rfl, h3, ⟨us, rfl, z, rr⟩, nf, wr⟩ := mut_ok R1 rx em
    split at h1
    · rename_i p ep
      obtain ⟨w, e2, rw'⟩ := rr.get ep
      rw [rr.length] at e2
      obtain ⟨R3, V3⟩ := wr (.lst xs.dropLast) (.lst us.dropLast) ⟨_, rfl, by simp; omega, rr.dropLast⟩
      exact ⟨tyL (SqL.of h3), a, us, w, rfl, rfl, h3, e2, h1 G1 _ V3 R3 w (RepV.mono V3.ext _ _ rw')⟩
    · exact h1.elim
  · exact h1.elim
/-- sep.join(texts) -/
@[simp] def strsIn (M : Mem) (y : EV) : Option (List Str) := match y with
  | .v (.tup xs) => asStrs xs
  | y => (asLst M y).bind asStrs
@[simp] def eJoin (f g : Sm EV) : Sm EV := fun M => (f M).bnd fun x M1 => match x with
  | .v (.str a) => (g M1).bnd fun y M2 => match strsIn M2 y with
    | some ys => if (ys.map (·.length)).sum + ys.length * a.length ≤ 16777216 then .ok (.v (.str (Txt.join a ys))) M2 else .bad
    | none => .bad
  | _ => .bad
theorem repE_strI {E : Ent} {H0 : Hp} {G : Gh} {M : Mem} {s : L2.St} {H : Hp} {z : Str} : RepE X.K E H0 G M s H (.v (.str z)) (.str z) := show RepV X.K G H (.str z) _ by simp only [RepV]
theorem fe_join (ho : FE X E W o f) (he : FE X E W e g) (hs : starEach [e] X.env = [(false, eval e X.env)] := by rfl) (hbase : attributeBase o "join" X.env (eval o X.env) = eval o X.env := by rfl) (hline : (apos.endLine == cpos.line) = true := by rfl) : FE X E W (.Call (.Attribute o "join" apos) [e] [] cpos) (eJoin f g) := by
  refine ⟨PE.weak (pe_join ho.pe he.pe hs hbase hline) ?_⟩
  rintro s H Q ⟨G, M, R, h⟩
  refine tE_one R h fun G1 M1 H1 x u V1 R1 rx h1 => ?_
  split at h1
  · rename_i a
    have eu := repE_str rx
    subst eu
    refine ⟨⟨a, rfl⟩, tE_one R1 h1 fun G2 M2 H2 y v V2 R2 ry h2 => ?_⟩
    split at h2
    · rename_i ys ey
      split at h2
      · rename_i hz
        have fin := OutP.now h2 R2 _ repE_strI
        simp only [strsIn] at ey
        split at ey
        · obtain ⟨b, us, rfl, hb, rb, zb⟩ := repE_tup ry
          have eu := asStrs_rep ey rb
          subst eu
          exact ⟨a, b, ys, rfl, rfl, .inr hb, hz, fin⟩
        · cases e1 : asLst M2 y with
          | none => rw [e1] at ey; cases ey
          | some xs =>
            rw [e1] at ey
            obtain ⟨b, us, rfl, hb, rb, zb⟩ := lst_of R2 ry e1
            have eu := asStrs_rep ey rb
            subst eu
            exact ⟨a, b, ys, rfl, rfl, .inl hb, hz, fin⟩
      · exact h2.elim
    · exact h2.elim
  · exact h1.elim
end

/-! ### o[i] = value -/
def dPutV : List Key → List PV → Key → PV → List PV
  | q :: ks, x :: xs, k, p => (if q = k then p else x) :: dPutV ks xs k p
  | _, _, _, _ => []
def dStore (ks : List Key) (xs : List PV) (k : Key) (p : PV) : List Key × List PV := if (ks.any fun q => decide (q = k)) = true then (ks, dPutV ks xs k p) else (ks ++ [k], xs ++ [p])
theorem dPutV_rep {K : PySem.W.Frag} {G : Gh} {H : Hp} {k : Key} {p : PV} {v : V} (rp : RepV K G H p v) : ∀ {kvs : List (Key × V)} {xs : List PV}, RepVs K G H xs (kvs.map (·.2)) →
    RepVs K G H (dPutV (kvs.map (·.1)) xs k p) ((kvs.map fun kv => if kv.1 = k then (kv.1, v) else kv).map (·.2))
  | [], xs, r => by simpa [dPutV] using RepVs.nil
  | (q, w) :: kvs, xs, r => by
    cases xs with
    | nil => have := r.length; simp at this
    | cons x xs =>
      obtain ⟨u, us, e2, r1, r2⟩ := RepVs.cons_iff.mp r
      cases e2
      simp only [List.map_cons, dPutV]
      by_cases h : q = k
      · rw [if_pos h, if_pos h]; exact RepVs.cons rp (dPutV_rep rp r2)
      · rw [if_neg h, if_neg h]; exact RepVs.cons r1 (dPutV_rep rp r2)
theorem dStore_rep {K : PySem.W.Frag} {G : Gh} {H : Hp} {k : Key} {p : PV} {v : V} {kvs : List (Key × V)} {xs : List PV} (rp : RepV K G H p v) (r : RepVs K G H xs (kvs.map (·.2))) (z : kvs.length < sizeLine) :
    RepO K G H (.dct (dStore (kvs.map (·.1)) xs k p).1 (dStore (kvs.map (·.1)) xs k p).2) (.dK (putK kvs k v)) := by
  have ek : ((kvs.map (·.1)).any fun q => decide (q = k)) = kvs.any fun kv => decide (kv.1 = k) := by rw [List.any_map]; rfl
  refine ⟨_, rfl, Nat.le_trans (length_putK kvs k v) z, ?_, ?_⟩
  · unfold putK dStore
    rw [ek]
    by_cases h' : (kvs.any fun kv => decide (kv.1 = k)) = true
    · rw [if_pos h', if_pos h', List.map_map]
      apply List.map_congr_left
      intro a _
      simp only [Function.comp]
      split <;> rfl
    · rw [if_neg h', if_neg h']
      simp
  · unfold putK dStore
    rw [ek]
    by_cases h' : (kvs.any fun kv => decide (kv.1 = k)) = true
    · rw [if_pos h', if_pos h']
      exact dPutV_rep rp r
    · rw [if_neg h', if_neg h', List.map_append]
      exact r.snoc rp
def rSetA : V → V → V → Hp → (Hp → Prop) → Prop := fun o i v H Q => rSetL o i v H Q ∨ ∃ a H4, o = .ref a ∧ DPut H a i v H4 ∧ Q H4
theorem set_any (hu : X.A.units + 1 < cLine) : PSet X rSetA := by
  intro pins s σ H o i v ov iv u Q I ro ri rv h
  rcases h with h | ⟨a, H4, rfl, g, q⟩
  · exact set_list pins s σ H o i v ov iv u Q I ro ri rv h
  · cases ro
    exact d_setItem hu I g ri rv fun s4 I4 => ⟨H4, I4, q⟩
@[simp] def sSub (fv : Sm PV) (fo fi : Sm EV) : Ss := fun M => (fv M).st fun p M1 => (fo M1).st fun x M2 => (fi M2).st fun y M3 => match mutAt M3 x with
  | some (.lst xs) => match y with
    | .v (.int i) => match ixN xs.length i with
      | some j => .nx (mutPut x (.lst (xs.set j p)) M3)
      | none => .bad
    | _ => .bad
  | some (.dct ks xs) => match keyOf y with
    | some q => if ks.length < sizeLine then .nx (mutPut x (.dct (dStore ks xs q p).1 (dStore ks xs q p).2) M3) else .bad
    | none => .bad
  | _ => .bad
theorem fs_sub (A : Amb Z X W N sc fs k) {o i e : Expr} {fv : Sm PV} {fo fi : Sm EV} {pos p2 : Pos} (he : FP X E W e fv) (ho : FE X E W o fo) (hi : FE X E W i fi) (hg : PSet X rSetA → PG X (.Subscript o i p2) (gSub (tE X E W fo) (tE X E W fi) rSetA))
    (hs : swapsWithSole [.Subscript o i p2] e pos.line X.env = pure false := by rfl) (hw : swappedStores [.Subscript o i p2] e X.env = pure none := by rfl) (h1 : (assignEach [.Subscript o i p2] X.env).map (·.2) = [assign (.Subscript o i p2) X.env] := by rfl) :
    FS X E W (.Assign [.Subscript o i p2] e pos) (sSub fv fo fi) := by
  refine ⟨PS.weak (ps_asg he.pe (hg (set_any A.u1)) hs hw h1) ?_⟩
  rintro D s H ⟨G, M, R, h⟩
  refine tP_st R h fun G1 M1 H1 p u V1 R1 rp q => ?_
  refine tE_st R1 q fun G2 M2 H2 x v V2 R2 rx q2 => ?_
  refine tE_st R2 q2 fun G3 M3 H3 y w V3 R3 ry q3 => ?_
  have rp3 := RepV.mono (V2.trans V3).ext _ _ rp
  split at q3
  · rename_i xs em
    obtain ⟨a, t, rfl, h3, ⟨us, rfl, z, rr⟩, nf, wr⟩ := mut_ok R3 (rx.evo V3) em
    split at q3
    · rename_i j
      split at q3
      · rename_i n en
        rw [rr.length] at en
        obtain ⟨R4, V4⟩ := wr (.lst (xs.set n p)) (.lst (us.set n u)) ⟨_, rfl, by simpa using z, rr.set n rp3⟩
        exact .inl ⟨a, us, j, n, rfl, repE_int ry, h3, en, q3 G3 s _ V4.ext R4⟩
      · exact q3.elim
    · exact q3.elim
  · rename_i ks xs em
    obtain ⟨a, t, rfl, h3, ⟨kvs, rfl, z, hk, rr⟩, nf, wr⟩ := mut_ok R3 (rx.evo V3) em
    split at q3
    · rename_i q eq
      split at q3
      · rename_i lt
        subst hk
        have lt' : kvs.length < sizeLine := by simpa using lt
        obtain ⟨R4, V4⟩ := wr _ _ (dStore_rep rp3 rr lt' (k := q))
        refine .inr ⟨a, _, rfl, ?_, q3 G3 s _ V4.ext R4⟩
        rw [key_rep ry eq]
        exact DPut.k h3 lt'
      · exact q3.elim
    · exact q3.elim
  · exact q3.elim
end

/-! ### a law's end -/
theorem law_sp {T : List NdefX.NTab} {K : PySem.W.Frag} {mg : Str → Option Value} {φ : Fn} (hφ : ∀ ns : List Int, ns.length ≤ 63 → ∃ h', φ [.rol (ns.map .int)] [] = .ok (.v (.bl true)) h') (H : Hp) (a : Addr) (ns : List Int) (hn : ns.length ≤ 63) (hS : SqL K H a (ns.map V.int)) (hT : ∀ p ∈ T, H p.1 = some (.tbl #[])) :
    spOf T K mg φ [.ref a] H (fun v _ => v = .bl true) fun _ _ _ => False := by
  obtain ⟨h', e⟩ := hφ ns hn
  have nn : ∀ (b : Addr) (us : List V), Rd H b (.lst us) → (∃ u, H b = some u ∧ NoX u) ∧ ∀ ps, H b ≠ some (.tbl ps) := fun b us h => by
    rcases h with h | ⟨o, h⟩ <;> exact ⟨⟨_, h, fun _ z => (nomatch z), fun _ z => (nomatch z)⟩, fun ps z => (by rw [z] at h; cases h)⟩
  have reps : ∀ ms : List Int, RepVs K ⟨fun b => b = a ∧ ∃ us, Rd H b (.lst us), []⟩ H (ms.map .int) (ms.map V.int) := fun ms => by
    induction ms with
    | nil => exact RepVs.nil
    | cons m ms ih => exact RepVs.cons (by simp only [RepV]) ih
  refine ⟨⟨fun b => b = a ∧ ∃ us, Rd H b (.lst us), []⟩, [], [.rol (ns.map .int)], ⟨fun b hb => ?_, List.nodup_nil, rfl, fun r b o hb => by simp at hb⟩, fun p hp => ⟨#[], hT p hp, True.intro, by simp, fun ⟨_, us, z⟩ => (nn _ _ z).2 _ (hT p hp), fun pos cv z => by simp [codeAmong] at z⟩, RepVs.cons ?_ RepVs.nil, ?_⟩
  · obtain ⟨_, us, z⟩ := hb
    exact (nn _ _ z).1
  · simp only [RepV]
    refine ⟨a, ns.map V.int, rfl, ⟨by rw [List.length_map, sizeLine_eq]; omega, ?_⟩, reps ns⟩
    rcases hS with h | h
    · exact .inl ⟨⟨rfl, _, h⟩, h⟩
    · exact .inr (.inr h)
  · rw [e]
    intro G' H' u _ _ ru
    have ru : RepV K G' H' (.bl true) u := ru
    simpa only [RepV] using ru
theorem CX_false {P : Program} {w : World} {H : Hp} {s : Shared} {e : Value} {s' : Shared} (h : L2.CX P w [] H s (fun _ _ _ => False) e s') : False := by
  obtain ⟨_, _, _, _, _, _, _, _, _, _, _, _, z⟩ := h
  exact z
end HF

end
section
set_option Elab.async false
set_option linter.all false
set_option maxRecDepth 20000
set_option autoImplicit false
/-! HF12: a def as the top has left it. -/
namespace HF
open PySem PySem.Spec PyProof.Rows L2
structure DefAt (Z : Wd) (x : Str) (st : Stmt) (ps : List Str) : Prop where
  ok : ∃ f fd, Fun Z.K x x st f fd ∧ Z.mg x = some (.ref f) ∧ Binds Z.K fd ps []
theorem DefAt.known {Z : Wd} {x : Str} {st : Stmt} {ps : List Str} {k : Nat} {φ : Fn} (h : DefAt Z x st ps) (d : ∀ f fd, Fun Z.K x x st f fd → FnOk Z.P Z.w Z.K Z.mg Z.base (L2.CX Z.P Z.w) k f fd ps (spOf Z.T Z.K Z.mg φ)) : Known Z k x [] φ := by
  obtain ⟨f, fd, F, m, b⟩ := h.ok
  exact ⟨f, fd, ps, [], [], d f fd F, m, F.kp, b, .nil, fun _ _ => RepVs.nil⟩
/-- nothing is promised without levels -/
theorem DefAt.none {Z : Wd} {x : Str} {st : Stmt} {ps : List Str} {k : Nat} (h : DefAt Z x st ps) : Known Z k x [] (fun _ _ => .bad) := by
  refine h.known fun f fd F => ⟨fun vs H Q Ex ⟨G, hh, p, _, _, _, z⟩ => z.elim, fun A outer s H args us vs Q Ex _ _ _ _ ⟨G, hh, p, _, _, _, z⟩ => z.elim⟩
structure StrAt (Z : Wd) (x : Str) (y : Str) : Prop where
  ok : ∃ t, Z.mg x = some (.str y t)
structure IntAt (Z : Wd) (x : Str) (y : Int) : Prop where
  ok : ∃ t, Z.mg x = some (.int y t)
/-! ### from the facts of the top -/
theorem defAt_mk {P : Program} {w : World} {K : PySem.W.Frag} {mg : Str → Option Value} {base h : Heap} {x : Str} {st : Stmt} {ps : List Str} {f : Addr} {oc kV doc pm cdv ct : Value} {od an : Option Addr} {osl : Array (Option Value)} {T : List NdefX.NTab}
    (X : K.In h) (G : h.Ns mainGlobals mg) (a : PySem.W.nsIn K mainGlobals x = some (some (.ref f)))
    (l : K.lookup f = some ⟨oc, od, .func (PySem.W.fnOf x x (defArgs st) (defBody st) (defScope st) .none kV doc pm an cdv ct), osl⟩)
    (c : PySem.W.codeIn K cdv x = true) (k : PySem.W.keepIn K (.ref f) = true)
    (hb : ∀ (kV doc pm : Value) (an : Option Addr) (cdv ct : Value) (us : List Value), us.length = ps.length → bindArgs (PySem.W.fnOf x x (defArgs st) (defBody st) (defScope st) .none kV doc pm an cdv ct) ⟨us, []⟩ = pure (ps.zip us)) : DefAt ⟨P, w, K, mg, base, T⟩ x st ps :=
  have F := fun_mk (st := st) l c k
  ⟨f, _, F, PySem.W.mg_of X G a, F.binds hb⟩
/-- a law's promise, whatever the module's names stand for -/
def spTop (K : PySem.W.Frag) (T : List NdefX.NTab) (φ : Fn) : Sp := fun vs H Q Ex => ∀ mg, spOf T K mg φ vs H Q Ex
end HF

end
section
set_option Elab.async false
set_option linter.all false
set_option maxRecDepth 20000
set_option autoImplicit false
/-! HF13: in, not in; -x; x += y; a list so many times; divmod; enumerate. -/
namespace HF
open PySem PySem.Spec PyProof.Rows L2
section
variable {X : Cx} {E : Ent} {W : WX} {N : List Str} {sc : Scope} {fs : Str → Bool} {k : Nat} {Z : Wd}

/-! ### in -/
/-- what is walked: the items of a tuple or a list -/
@[simp] def asSeq (M : Mem) (e : EV) : Option (List PV) := match e with
  | .v (.tup xs) => some xs
  | e => asLst M e
@[simp] def inI : Cp2 := fun x y M => match x with
  | .v (.int i) => ((asSeq M y).bind asInts).map fun ns => decide (i ∈ ns)
  | _ => none
@[simp] def inT : Cp2 := fun x y M => match x with
  | .v (.str i) => ((asSeq M y).bind asStrs).map fun ns => decide (i ∈ ns)
  | _ => none
@[simp] def inC : Cp2 := fun x y _ => match x, y with
  | .v (.str i), .v (.str z) => match i.cps.toList with
    | [c] => some (decide (c ∈ z.cps.toList))
    | _ => none
  | _, _ => none
@[simp] def inK : Cp2 := fun x y M => match keyOf x, asDct M y with
  | some q, some (ks, _) => some (ks.any fun p => decide (p = q))
  | _, _ => none
@[simp] def inD : Cp2 := fun x y M => match evD M x, evD M y with
  | some d, some (.list ds) => if SeqAt.shaped d && SeqAt.shaped (.list ds) then some (ds.any fun z => PyData.eqv z d) else none
  | _, _ => none
theorem asSeq_of {E : Ent} {H0 : Hp} {G : Gh} {M : Mem} {s : L2.St} {H : Hp} {y : EV} {v : V} {xs : List PV} (R : StRep X.K E G M s H) (r : RepE X.K E H0 G M s H y v) (h : asSeq M y = some xs) : ∃ a us, v = .ref a ∧ (SqL X.K H a us ∨ SqT X.K H a us) ∧ RepVs X.K G H xs us := by
  unfold asSeq at h
  split at h
  · cases h
    obtain ⟨a, us, rfl, ha, ra, za⟩ := repE_tup r
    exact ⟨a, us, rfl, .inr ha, ra⟩
  · obtain ⟨a, us, rfl, ha, ra, za⟩ := lst_of R r h
    exact ⟨a, us, rfl, .inl ha, ra⟩
theorem inV_ints (i : Int) (ns : List Int) : inV (.int i) (ns.map V.int) = decide (i ∈ ns) := by
  unfold inV
  rw [List.any_map]
  induction ns with
  | nil => simp
  | cons n ns ih =>
    rw [List.any_cons, ih]
    simp only [Function.comp, eqV, List.mem_cons]
    by_cases h : i = n
    · simp [h]
    · simp [h, Ne.symm h]
theorem inV_strs (i : Str) (ns : List Str) : inV (.str i) (ns.map V.str) = decide (i ∈ ns) := by
  unfold inV
  rw [List.any_map]
  induction ns with
  | nil => simp
  | cons n ns ih =>
    rw [List.any_cons, ih]
    simp only [Function.comp, eqV, List.mem_cons]
    by_cases h : i = n
    · simp [h]
    · simp [h, Ne.symm h]
def rInA (K : PySem.W.Frag) (neg : Bool) : R2 := fun x y H Q => rIn K neg x y H Q ∨ (∃ c z, x = .str ⟨#[c]⟩ ∧ y = .str z ∧ Q (.bl (if neg then !decide (c ∈ z.cps.toList) else decide (c ∈ z.cps.toList))) H) ∨ (∃ a o, y = .ref a ∧ DGet H a x o ∧ Q (.bl (if neg then !o.isSome else o.isSome)) H) ∨
  ∃ d ds, Dp K H x d ∧ Dp K H y (.list ds) ∧ SeqAt.shaped d = true ∧ SeqAt.shaped (.list ds) = true ∧ Q (.bl (if neg then !(ds.any fun z => PyData.eqv z d) else ds.any fun z => PyData.eqv z d)) H
theorem op_inA (A : Amb Z X W N sc fs k) : OpR X (compareOp .In) (rInA X.K false) := by
  intro pins s σ H x y v u Q I rx ry h
  rcases h with h | h | ⟨a, o, rfl, g, q⟩ | h
  · exact op_in_seq pins s σ H x y v u Q I rx ry h
  · exact op_in_sign pins s σ H x y v u Q I rx ry h
  · cases ry
    exact d_in A.u1 I g rx fun s' I' => ⟨.bl _, H, I', rfl, q⟩
  · exact op_inD A.u65 pins s σ H x y v u Q I rx ry h
theorem op_niA (A : Amb Z X W N sc fs k) : OpR X (compareOp .NotIn) (rInA X.K true) := by
  intro pins s σ H x y v u Q I rx ry h
  rcases h with h | h | ⟨a, o, rfl, g, q⟩ | h
  · exact op_notIn_seq pins s σ H x y v u Q I rx ry h
  · exact op_notIn_sign pins s σ H x y v u Q I rx ry h
  · cases ry
    exact d_notIn A.u1 I g rx fun s' I' => ⟨.bl _, H, I', rfl, q⟩
  · exact op_notInD A.u65 pins s σ H x y v u Q I rx ry h
@[simp] def cpIn : Cp2 := fun x y M => (inI x y M).or ((inT x y M).or ((inC x y M).or ((inK x y M).or (inD x y M))))
@[simp] def cpNi : Cp2 := fun x y M => (cpIn x y M).map (!·)
theorem dGet_some : ∀ {ks : List Key} {xs : List PV} (q : Key), ks.length = xs.length → (dGet ks xs q).isSome = ks.any fun p => decide (p = q)
  | [], [], q, _ => rfl
  | k :: ks, x :: xs, q, h => by
    unfold dGet
    by_cases e : k = q
    · simp [e]
    · rw [if_neg e, dGet_some (ks := ks) (xs := xs) q (by simpa using h)]
      simp [e]
theorem sgn_of {i : Str} {c : Nat} (h : i.cps.toList = [c]) : i = ⟨#[c]⟩ := by
  obtain ⟨a⟩ := i
  have : a = #[c] := by rw [← Array.toList_inj]; exact h
  rw [this]
theorem cpIn_g (neg : Bool) {E : Ent} {s : L2.St} {G : Gh} {M : Mem} {H H0 : Hp} {x y : EV} {u v : V} {b : Bool} {Q : VK} (R : StRep X.K E G M s H) (rx : RepE X.K E H0 G M s H x u) (ry : RepE X.K E H0 G M s H y v) (e : cpIn x y M = some b) (q : Q (.bl (if neg then !b else b)) H) : rInA X.K neg u v H Q := by
  have hi : inI x y M = some b → rInA X.K neg u v H Q := fun e => by
    simp only [inI] at e
    split at e
    · rename_i i
      cases e1 : asSeq M y with
      | none => rw [e1] at e; cases e
      | some xs =>
        rw [e1] at e
        simp only [Option.bind_some] at e
        cases e2 : asInts xs with
        | none => rw [e2] at e; cases e
        | some ns =>
          rw [e2] at e
          cases e
          obtain ⟨a, us, rfl, ha, ra⟩ := asSeq_of R ry e1
          have eu := asInts_rep e2 ra
          subst eu
          have ex := repE_int rx
          subst ex
          refine .inl ⟨a, ns.map V.int, rfl, ha, rfl, ?_, ?_⟩
          · rw [List.all_map]; exact List.all_eq_true.mpr fun _ _ => rfl
          · rw [inV_ints]; exact q
    · cases e
  have ht : inT x y M = some b → rInA X.K neg u v H Q := fun e => by
    simp only [inT] at e
    split at e
    · rename_i i
      cases e1 : asSeq M y with
      | none => rw [e1] at e; cases e
      | some xs =>
        rw [e1] at e
        simp only [Option.bind_some] at e
        cases e2 : asStrs xs with
        | none => rw [e2] at e; cases e
        | some ns =>
          rw [e2] at e
          cases e
          obtain ⟨a, us, rfl, ha, ra⟩ := asSeq_of R ry e1
          have eu := asStrs_rep e2 ra
          subst eu
          have ex := repE_str rx
          subst ex
          refine .inl ⟨a, ns.map V.str, rfl, ha, rfl, ?_, ?_⟩
          · rw [List.all_map]; exact List.all_eq_true.mpr fun _ _ => rfl
          · rw [inV_strs]; exact q
    · cases e
  have hc : inC x y M = some b → rInA X.K neg u v H Q := fun e => by
    simp only [inC] at e
    split at e
    · split at e
      · rename_i c ec
        cases e
        have ex := repE_str rx
        have ey := repE_str ry
        exact .inr (.inl ⟨c, _, ex.trans (congrArg V.str (sgn_of ec)), ey, q⟩)
      · cases e
    · cases e
  have hk : inK x y M = some b → rInA X.K neg u v H Q := fun e => by
    simp only [inK] at e
    split at e
    · rename_i q0 ks xs e1 e2
      cases e
      have ex := key_rep rx e1
      subst ex
      obtain ⟨a, kvs, rfl, hr, hks, rr, z⟩ := dct_of R ry e2
      have g := dGet_rep q0 hks rr
      have gs := dGet_some (ks := ks) (xs := xs) q0 (by rw [← hks, rr.length]; simp)
      refine .inr (.inr (.inl ⟨a, valV kvs q0, rfl, rd_dget hr, ?_⟩))
      have : (valV kvs q0).isSome = ks.any fun p => decide (p = q0) := by
        rw [← gs]
        cases e3 : dGet ks xs q0 with
        | none => rw [e3] at g; simp only at g; rw [g]; rfl
        | some p => rw [e3] at g; obtain ⟨w, h1, h2⟩ := g; rw [h1]; rfl
      rw [this]; exact q
    · cases e
  have hd : inD x y M = some b → rInA X.K neg u v H Q := fun e => by
    simp only [inD] at e
    split at e
    · rename_i d ds e1 e2
      split at e
      · rename_i z
        rw [Bool.and_eq_true] at z
        cases e
        exact .inr (.inr (.inr ⟨d, ds, evD_rep R rx e1, evD_rep R ry e2, z.1, z.2, q⟩))
      · cases e
    · cases e
  unfold cpIn at e
  cases e1 : inI x y M with
  | some c => rw [e1] at e; cases e; exact hi e1
  | none =>
    rw [e1] at e
    cases e2 : inT x y M with
    | some c => rw [e2] at e; cases e; exact ht e2
    | none =>
      rw [e2] at e
      cases e3 : inC x y M with
      | some c => rw [e3] at e; cases e; exact hc e3
      | none =>
        rw [e3] at e
        cases e4 : inK x y M with
        | some c => rw [e4] at e; cases e; exact hk e4
        | none => rw [e4] at e; exact hd e
theorem cpIn_ok : Cp2Ok X (rInA X.K false) cpIn := fun E s G M H H0 x y u v b Q R rx ry e q => cpIn_g false R rx ry e q
theorem cpNi_ok : Cp2Ok X (rInA X.K true) cpNi := by
  intro E s G M H H0 x y u v b Q R rx ry e q
  unfold cpNi at e
  cases e1 : cpIn x y M with
  | none => rw [e1] at e; cases e
  | some c => rw [e1] at e; cases e; exact cpIn_g true R rx ry e1 q
section
variable {a b : Expr} {f g : Sm EV} {pos : Pos}
theorem fe_in (A : Amb Z X W N sc fs k) (ha : FE X E W a f) (hb : FE X E W b g) (hm : behindInMarks .In b = false := by rfl) : FE X E W (.Compare a [.In] [b] pos) (eB (b2 cpIn f g)) := fe_cmp (op_inA A) cpIn_ok ha hb hm
theorem ft_in (A : Amb Z X W N sc fs k) (ha : FE X E W a f) (hb : FE X E W b g) (hm : behindInMarks .In b = false := by rfl) : FT X E W (.Compare a [.In] [b] pos) (b2 cpIn f g) := ft_cmp (op_inA A) cpIn_ok ha hb hm
theorem fe_ni (A : Amb Z X W N sc fs k) (ha : FE X E W a f) (hb : FE X E W b g) (hm : behindInMarks .NotIn b = false := by rfl) : FE X E W (.Compare a [.NotIn] [b] pos) (eB (b2 cpNi f g)) := fe_cmp (op_niA A) cpNi_ok ha hb hm
theorem ft_ni (A : Amb Z X W N sc fs k) (ha : FE X E W a f) (hb : FE X E W b g) (hm : behindInMarks .NotIn b = false := by rfl) : FT X E W (.Compare a [.NotIn] [b] pos) (b2 cpNi f g) := ft_cmp (op_niA A) cpNi_ok ha hb hm
end

/-! ### -x -/
@[simp] def opNeg : Op1 := fun x _ => match x with
  | .v (.int i) => some (.v (.int (-i)))
  | _ => none
theorem opNeg_ok : Op1Ok X (rU fun i => .int (-i)) opNeg := by
  intro E s G M H H0 x u ev Q R d rx e q
  simp only [opNeg] at e
  split at e
  · cases e
    exact ⟨_, repE_int rx, q G H _ (Evo.refl _ _ _ _) R (show RepV X.K G H (.int _) _ by simp only [RepV])⟩
  · cases e
theorem fe_neg {a : Expr} {f : Sm EV} {pos : Pos} (ha : FE X E W a f) : FE X E W (.UnaryOp .USub a pos) (e1 opNeg f) :=
  ⟨PE.weak (pe_un un_neg ha.pe) fun _ _ _ h => tE_op1 opNeg_ok h⟩

/-! ### x += y: whole numbers -/
@[simp] def sAugAdd (i : Nat) (f : Sm EV) : Ss := fun M => match slotAt M i with
  | some (.v (.int a)) => (f M).st fun y M1 => match y with
    | .v (.int b) => .nx ⟨M1.r.set i (some (.v (.int (a + b)))), M1.h⟩
    | _ => .bad
  | _ => .bad
theorem fs_augadd (A : Amb Z X W N sc fs k) {x : Str} {i : Nat} {e : Expr} {f : Sm EV} {pos pos' : Pos} (hN : N[i]? = some x) (hl : locB sc fs x = true) (he : FE X E W e f) : FS X E W (.AugAssign (.Name x pos') .Add e pos) (sAugAdd i f) := by
  refine ⟨PS.weak (ps_aug (by rw [A.hN]; exact A.nd) (by rw [A.hN]; exact hN) (by rw [A.hs]; exact locB_loc hl) he.pe ip_add (locB_fn A hl)) ?_⟩
  rintro D s H ⟨G, M, R, h⟩
  simp only [sAugAdd] at h
  split at h
  · rename_i a ea
    obtain ⟨u, e1, r1⟩ := R.slot i _ (slotAt_some ea)
    simp only [RepV] at r1
    subst r1
    refine ⟨_, e1, tE_st R h fun G1 M1 H1 y v V1 R1 ry q => ?_⟩
    split at q
    · rename_i b
      exact ⟨a, b, rfl, repE_int ry, SOut.nxt q (R1.setV i (show RepV X.K G1 H1 (.int (a + b)) (.int (a + b)) by simp only [RepV]))⟩
    · exact q.elim
  · exact h.elim

/-! ### a list so many times -/
@[simp] def opRepN : Op2 := fun x y _ => match x, y with
  | .fr (.lst xs), .v (.int n) => if (decide (n.natAbs < 2 ^ 62) && decide (xs.length * n.toNat ≤ sizeLine)) = true then some (.fr (.lst (List.replicate n.toNat xs).flatten)) else none
  | _, _ => none
theorem RepVs.rep {K : PySem.W.Frag} {G : Gh} {H : Hp} {xs : List PV} {us : List V} (r : RepVs K G H xs us) : ∀ n : Nat, RepVs K G H (List.replicate n xs).flatten (List.replicate n us).flatten
  | 0 => RepVs.nil
  | n + 1 => by
    rw [List.replicate_succ, List.replicate_succ, List.flatten_cons, List.flatten_cons]
    exact r.append (RepVs.rep r n)
theorem opRepN_ok : Op2Ok X rRep opRepN := by
  intro E s G M H H0 x y u v ev Q R d rx ry e q
  simp only [opRepN] at e
  split at e
  · rename_i xs n
    split at e
    · rename_i z
      simp only [Bool.and_eq_true, decide_eq_true_eq] at z
      cases e
      obtain ⟨a, w, rfl, h1, ⟨us, rfl, zz, rr⟩, _⟩ := rx
      have l1 := rr.length
      refine ⟨a, n, us, rfl, repE_int ry, h1, by omega, by omega, by rw [← l1]; exact z.2, fun p hp => ?_⟩
      obtain ⟨V1, R1, r1⟩ := rep_newlst (H0 := H0) R d (rr.rep n.toNat) (by rw [List.length_flatten, List.map_replicate, List.sum_replicate_nat]; rw [l1] at z; rw [Nat.mul_comm]; exact z.2) hp
      exact q _ _ _ V1 R1 r1
    · cases e
  · cases e
theorem fe_rep {a b : Expr} {f g : Sm EV} {pos : Pos} (ha : FE X E W a f) (hb : FE X E W b g) : FE X E W (.BinOp a .Mult b pos) (e2 opRepN f g) := fe_bin op_rep opRepN_ok ha hb

/-! ### divmod -/
@[simp] def opDvm : Op2 := fun x y _ => match x, y with
  | .v (.int i), .v (.int j) => if divOk i j then some (.v (.tup [.int (i / j), .int (i % j)])) else none
  | _, _ => none
end
end HF

end
section
set_option Elab.async false
set_option linter.all false
set_option maxRecDepth 20000
set_option autoImplicit false
/-! HF14: divmod, enumerate; a slot's new thing as a cell; o[i], x = pair. -/
namespace HF
open PySem PySem.Spec PyProof.Rows L2
section
variable {X : Cx} {E : Ent} {W : WX} {N : List Str} {sc : Scope} {fs : Str → Bool} {k : Nat} {Z : Wd}
theorem repVs_ints {K : PySem.W.Frag} {G : Gh} {H : Hp} (ns : List Int) : RepVs K G H (ns.map PV.int) (ns.map V.int) := by
  induction ns with
  | nil => exact RepVs.nil
  | cons n ns ih => exact RepVs.cons (by simp only [RepV]) ih
theorem opDvm_ok : Op2Ok X (fun u v H Q => ∃ i j, [u, v] = [V.int i, V.int j] ∧ CDiv i j ∧ ∀ p, H p = none → Q (.ref p) (upd H p (.tup [.int (i / j), .int (i % j)]))) opDvm := by
  intro E s G M H H0 x y u v ev Q R d rx ry e q
  simp only [opDvm] at e
  split at e
  · rename_i i j
    split at e
    · rename_i z
      cases e
      refine ⟨i, j, by rw [repE_int rx, repE_int ry], by simpa [divOk, CDiv] using z, fun p hp => ?_⟩
      obtain ⟨V1, R1, r1⟩ := rep_newtup R (repVs_ints [i / j, i % j]) (by rw [sizeLine_eq]; simp) hp
      exact q _ _ _ V1 R1 r1
    · cases e
  · cases e
theorem fe_divmod (A : Amb Z X W N sc fs k) {a b : Expr} {f g : Sm EV} {p pos : Pos} (hm : Z.mg ("divmod" : Str) = none) (ha : FE X E W a f) (hb : FE X E W b g) (hg : sc.names.lookup ("divmod" : Str) = some .globalImplicit := by rfl)
    (h1 : starEach [a, b] X.env = (false, eval a X.env) :: starEach [b] X.env := by rfl) (h2 : starEach [b] X.env = (false, eval b X.env) :: starEach [] X.env := by rfl)
    (hpl : (backTo pos (starEach [b] X.env)).any (fun z => z.1) = false := by rfl) : FE X E W (.Call (.Name "divmod" p) [a, b] [] pos) (e2 opDvm f g) :=
  fe_b2 A call_divmod opDvm_ok hm PyProof.Rows.boot_divmod ha hb hg (by decide) (by decide) h1 h2 hpl

/-! ### enumerate -/
def enumP (xs : List PV) : List PV := xs.zipIdx.map fun p => .tup [.int (p.2 : Nat), p.1]
theorem enumP_get (xs : List PV) (i : Nat) : (enumP xs)[i]? = xs[i]?.map fun x => .tup [.int (i : Nat), x] := by
  unfold enumP
  rw [List.getElem?_map, List.getElem?_zipIdx]
  cases xs[i]? <;> simp
theorem enumP_len (xs : List PV) : (enumP xs).length = xs.length := by simp [enumP]
theorem enumP_map {α : Type} (k : α → PV) (ys : List α) : enumP (ys.map k) = ys.zipIdx.map fun p => .tup [.int (p.2 : Nat), k p.1] := by
  unfold enumP
  rw [List.zipIdx_map, List.map_map]
  rfl
@[simp] def srcEn (f : Sm EV) : Sm Src := fun M => (f M).bnd fun e M1 => match e with
  | .v (.lst xs) => .ok (.v .non, enumP xs) M1
  | .v (.rol xs) => .ok (.v .non, enumP xs) M1
  | .fr (.lst xs) => .ok (.v .non, enumP xs) M1
  | _ => .bad
theorem wk_enum {K : PySem.W.Frag} {e : EV} {xs : List PV} {s0 : L2.St} {G0 : Gh} {H0 : Hp} {a : Addr} (hz : xs.length ≤ sizeLine) (v : ∀ G M s H, StRep K E G M s H → Ext G0 H0 G H → ∃ us, SqL K H a us ∧ RepVs K G H xs us) {X : Cx} (hK : X.K = K) : Wk K E (.v .non) (enumP xs) s0 (Ite K a) G0 H0 where
  go := fun i G M s H R x c sa lt => by
    obtain ⟨us, q, r⟩ := v G M s H R x
    rw [enumP_len] at lt
    have lt' : i < us.length := by rw [← r.length]; exact lt
    exact ⟨us, us[i], q, List.getElem?_eq_getElem lt'⟩
  yld := fun i G M s H y H' p R x c sa e1 e2 => by
    subst hK
    obtain ⟨us, q, r⟩ := v G M s H R x
    obtain ⟨T, z, rfl, hT, rfl, h2⟩ := e2
    have h2 := h2 us q
    rw [enumP_get] at e1
    obtain ⟨p', h3, h4⟩ := r.getV h2
    rw [h3] at e1
    cases e1
    obtain ⟨V1, R1, r1⟩ := rep_newtup (X := X) R (ps := [.int (i : Nat), p']) (us := [.int (i : Nat), z]) (RepVs.cons (by simp only [RepV]) (RepVs.cons h4 RepVs.nil)) (by rw [sizeLine_eq]; simp) hT
    exact ⟨_, V1, R1, r1⟩
  stop := fun i G M s H R x c sa le => by
    obtain ⟨us, q, r⟩ := v G M s H R x
    rw [enumP_len] at le
    exact ⟨us, q, by rw [← r.length]; exact le⟩
  sz := by rw [enumP_len]; exact hz
theorem fi_enum (A : Amb Z X W N sc fs k) {elts : List Expr} {kk : Nat} {tpos p pos : Pos} {e : Expr} {f : Sm EV} (hm : X.mg ("enumerate" : Str) = none) (h : FE X E W e f) (hg : sc.names.lookup ("enumerate" : Str) = some .globalImplicit := by rfl) (hs : starEach [e] X.env = [(false, eval e X.env)] := by rfl) : FI X E W (.Tuple elts kk tpos) (.Call (.Name "enumerate" p) [e] [] pos) (srcEn f) := by
  refine ⟨PI.weak (pi_enum (A.gl hg) hm (pa_cons h.pe pa_nil (by rw [hs]; rfl)) hs) ?_⟩
  rintro s H Q ⟨G, M, R, hh⟩
  show tE X E W f s H fun x H1 => ∃ a xs, [x] = [V.ref a] ∧ SqL X.K H1 a xs ∧ Q (Ite X.K a) H1
  refine ⟨G, M, R, ?_⟩
  simp only [srcEn] at hh
  cases hf : f M with
  | exn c M1 => rw [hf] at hh; exact hh
  | bad => rw [hf] at hh; exact hh
  | ok x M1 =>
    rw [hf] at hh
    simp only [Res.bnd] at hh
    intro G1 H1 V1 R1 u rx
    split at hh
    · rename_i xs
      have ru : RepV X.K G1 H1 (.lst xs) u := rx
      simp only [RepV] at ru
      obtain ⟨a, us, rfl, ⟨z, f1, f2⟩, rr⟩ := ru
      exact ⟨a, us, rfl, .inl f2, hh G1 H1 V1 R1 _ (wk_enum (e := .v .non) (X := X) (by rw [rr.length]; exact z) (fun G' M' s' H' R' x => ⟨us, .inl (x.rd a _ f1 trivial f2), RepVs.mono x _ _ rr⟩) rfl)⟩
    · rename_i xs
      have ru : RepV X.K G1 H1 (.rol xs) u := rx
      simp only [RepV] at ru
      obtain ⟨a, us, rfl, fl, rr⟩ := ru
      exact ⟨a, us, rfl, fl.sq, hh G1 H1 V1 R1 _ (wk_enum (e := .v .non) (X := X) (by rw [rr.length]; exact fl.1) (fun G' M' s' H' R' x => ⟨us, (fl.mono x).sq, RepVs.mono x _ _ rr⟩) rfl)⟩
    · rename_i xs
      obtain ⟨a, w, rfl, h2, ⟨us, rfl, z, rr⟩, n, nf, nl, no, ho⟩ := rx
      have x0 := G1.ext_fz H1 a
      exact ⟨a, us, rfl, SqL.of h2, hh (G1.fz a) H1 (V1.frozen (.inl ho)) (R1.frozen h2 n nl no) _ (wk_enum (e := .v .non) (X := X) (by rw [rr.length]; exact z) (fun G' M' s' H' R' x => ⟨us, .inl (x.rd a _ (.inr rfl) trivial (.inl h2)), RepVs.mono (x0.trans x) _ _ rr⟩) rfl)⟩
    · exact hh.elim
theorem srcEn_ns {f : Sm EV} : NoSlot (srcEn f) := by
  refine ⟨fun M a M' h => ?_⟩
  simp only [srcEn] at h
  cases hf : f M with
  | exn c M1 => rw [hf] at h; cases h
  | bad => rw [hf] at h; cases h
  | ok e M1 =>
    rw [hf] at h
    simp only [Res.bnd] at h
    split at h <;> first | (cases h; rfl) | cases h

/-! ### a new thing that more than one name may hold -/
theorem StRep.cellNew {K : PySem.W.Frag} {G : Gh} {M : Mem} {s : L2.St} {H : Hp} (R : StRep K E G M s H) {a : Addr} {w : HO} {o : PO} (h1 : H a = some w) (ro : RepO K G H o w) (hn : E.H a = none) (nf : ¬ G.F a) (nl : a ∉ G.al) (no : ¬ OwnAt M.r s a) :
    StRep K E ⟨G.F, G.al ++ [a]⟩ ⟨M.r, M.h ++ [o]⟩ s H ∧ Ext G H ⟨G.F, G.al ++ [a]⟩ H := by
  have x : Ext G H ⟨G.F, G.al ++ [a]⟩ H := ⟨fun _ h => h, fun _ _ _ _ h => h, fun r b h => by
    show (G.al ++ [a])[r]? = some b
    rw [List.getElem?_append_left (List.getElem?_eq_some_iff.mp h).1]; exact h, fun _ _ _ _ h => h⟩
  have x' : ∀ {p : PV} {u : V}, RepV K G H p u → RepV K ⟨G.F, G.al ++ [a]⟩ H p u := fun {p u} r => RepV.mono x _ _ r
  refine ⟨⟨⟨R.post.f, R.post.fnew, ?_, R.post.keep, fun t => (R.post.tabs t).step fun b u e nn n m => ⟨e, fun z => ?_, m⟩, R.post.rd, R.post.dom, R.post.fz⟩, ⟨R.hp.fdom, ?_, ?_, fun r b ob e e' => ?_⟩, R.len, fun i q e => ?_, fun i ob e => ?_, R.sep⟩, x⟩
  · obtain ⟨l, e1, e2⟩ := R.post.al
    refine ⟨l ++ [a], by simp [e1], fun b hb => ?_⟩
    rcases List.mem_append.mp hb with hb | hb
    · exact e2 b hb
    · simp at hb; subst hb; exact hn
  · rcases List.mem_append.mp z with z | z
    · exact n z
    · simp at z; subst z; rw [h1] at e; cases e; exact nn ro.nox
  · exact List.nodup_append.mpr ⟨R.hp.nd, by simp, fun b hb c hc => by simp at hc; subst hc; exact fun z => nl (z ▸ hb)⟩
  · simp [R.hp.len]
  · have lenE := R.hp.len
    by_cases lt : r < G.al.length
    · have e : (G.al ++ [a])[r]? = some b := e
      rw [List.getElem?_append_left lt] at e
      have e' : (M.h ++ [o])[r]? = some ob := e'
      rw [List.getElem?_append_left (by omega)] at e'
      obtain ⟨f, u, q, rr⟩ := R.hp.obj r b ob e e'
      exact ⟨f, u, q, rr.mono x⟩
    · have e : (G.al ++ [a])[r]? = some b := e
      rw [List.getElem?_append_right (by omega)] at e
      have e' : (M.h ++ [o])[r]? = some ob := e'
      rw [List.getElem?_append_right (by omega)] at e'
      have z : r - G.al.length = 0 := by
        have := (List.getElem?_eq_some_iff.mp e).1
        simp at this; omega
      rw [lenE] at e'
      rw [z] at e e'
      simp at e e'
      subst e e'
      exact ⟨nf, w, h1, ro.mono x⟩
  · obtain ⟨u, k1, k2⟩ := R.slot i q e
    exact ⟨u, k1, x' k2⟩
  · obtain ⟨b, u, k1, k2, k3, k4, k5, k6⟩ := R.own i ob e
    refine ⟨b, u, k1, k2, k3.mono x, k4, k5, fun z => ?_⟩
    rcases List.mem_append.mp z with z | z
    · exact k6 z
    · simp at z; subst z; exact no ⟨i, ob, e, k1⟩
/-- name = a new thing that is handed on by its address -/
@[simp] def sCell (i : Nat) (f : Sm EV) : Ss := fun M => (f M).st fun e M1 => match e with
  | .fr o => .nx ⟨M1.r.set i (some (.v (.ref M1.h.length))), M1.h ++ [o]⟩
  | .v p => .nx ⟨M1.r.set i (some (.v p)), M1.h⟩
  | .sl _ => .bad
theorem fs_cell (A : Amb Z X W N sc fs k) {e : Expr} {f : Sm EV} {pos pos' : Pos} {x : Str} {i : Nat} (hN : N[i]? = some x) (hl : locB sc fs x = true) (he : FE X E W e f) (hs : swapsWith e (some (.Name x pos')) pos.line X.env = pure false := by rfl) : FS X E W (.Assign [.Name x pos'] e pos) (sCell i f) := by
  refine ⟨PS.weak (ps_set (by rw [A.hN]; exact A.nd) (by rw [A.hN]; exact hN) (by rw [A.hs]; exact locB_loc hl) he.pe hs (locB_fn A hl)) ?_⟩
  rintro D s H ⟨G, M, R, h⟩
  refine tE_st R h fun G1 M1 H1 e u V1 R1 re q => ?_
  cases e with
  | v p => exact SOut.nxt q (R1.setV i re)
  | fr o =>
    obtain ⟨a, w, rfl, h1, ro, n, nf, nl, no, _⟩ := re
    obtain ⟨R2, x2⟩ := R1.cellNew h1 ro n nf nl no
    have lenE := R1.hp.len
    exact q _ _ H1 x2 (R2.setV i (show RepV X.K _ H1 (.ref M1.h.length) (.ref a) by
      simp only [RepV]
      exact ⟨a, rfl, by rw [lenE]; simp⟩))
  | sl j => exact False.elim q

/-! ### o[i], x = a pair -/
@[simp] def sPatSub (fv : Sm PV) (fo fi : Sm EV) (j : Nat) : Ss := fun M => (fv M).st fun p M1 => match p with
  | .tup [p1, p2] => (sSub (fun M => .ok p1 M) fo fi M1).sq fun M2 => .nx ⟨M2.r.set j (some (.v p2)), M2.h⟩
  | _ => .bad
theorem st_sq {α : Type} (x : Res α) (f : α → Mem → SR) (g : Ss) : (x.st f).sq g = x.st fun a M => (f a M).sq g := by cases x <;> rfl
theorem fs_patsub (A : Amb Z X W N sc fs k) {o i e : Expr} {fv : Sm PV} {fo fi : Sm EV} {pos p2 p3 tpos : Pos} {kk j : Nat} {x : Str} (he : FP X E W e fv) (ho : FE X E W o fo) (hi : FE X E W i fi) (hN : N[j]? = some x) (hl : locB sc fs x = true)
    (hg : PSet X rSetA → PG X (.Subscript o i p2) (gSub (tE X E W fo) (tE X E W fi) rSetA))
    (hs2 : (assignEach [.Subscript o i p2, .Name x p3] X.env).map (·.2) = assign (.Subscript o i p2) X.env :: (assignEach [.Name x p3] X.env).map (·.2) := by rfl) (hs1 : (assignEach [.Name x p3] X.env).map (·.2) = assign (.Name x p3) X.env :: (assignEach [] X.env).map (·.2) := by rfl)
    (hn : (assignEach [.Subscript o i p2, .Name x p3] X.env).length = 2 := by rfl) (hst : (assignEach [.Subscript o i p2, .Name x p3] X.env).findIdx? (·.1) = none := by rfl)
    (hs : swapsWithSole [.Tuple [.Subscript o i p2, .Name x p3] kk tpos] e pos.line X.env = pure false := by rfl) (hw : swappedStores [.Tuple [.Subscript o i p2, .Name x p3] kk tpos] e X.env = pure none := by rfl)
    (h1 : (assignEach [.Tuple [.Subscript o i p2, .Name x p3] kk tpos] X.env).map (·.2) = [assign (.Tuple [.Subscript o i p2, .Name x p3] kk tpos) X.env] := by rfl) :
    FS X E W (.Assign [.Tuple [.Subscript o i p2, .Name x p3] kk tpos] e pos) (sPatSub fv fo fi j) := by
  have pgn : PG X (.Name x p3) (gName j) := pg_name (by rw [A.hN]; exact A.nd) (by rw [A.hN]; exact hN) (by rw [A.hs]; exact locB_loc hl) (locB_fn A hl)
  refine ⟨PS.weak (ps_asg he.pe (pg_tup A.calm (pgs_cons (hg (set_any A.u1)) (pgs_cons pgn pgs_nil hs1) hs2) hn hst) hs hw h1) ?_⟩
  rintro D s H ⟨G, M, R, h⟩
  refine tP_st R h fun G1 M1 H1 p u V1 R1 rp q => ?_
  split at q
  · rename_i p1 p2
    obtain ⟨a, us, rfl, ht, rs, z⟩ := tup_of rp
    obtain ⟨u1, ws, rfl, r1, rs⟩ := RepVs.cons_iff.mp rs
    obtain ⟨u2, ws, rfl, r2, rs⟩ := RepVs.cons_iff.mp rs
    have ew := RepVs.nil_iff.mp rs
    subst ew
    refine ⟨a, [u1, u2], rfl, ht, rfl, u1, [u2], rfl, ?_⟩
    unfold sSub at q
    change SOut X E W D G1 H1 (((fo M1).st _).sq _) at q
    rw [st_sq] at q
    refine tE_st R1 q fun G2 M2 H2 x v V2 R2 rx q2 => ?_
    rw [st_sq] at q2
    refine tE_st R2 q2 fun G3 M3 H3 y w V3 R3 ry q3 => ?_
    have rp3 := RepV.mono (V2.trans V3).ext _ _ r1
    have rq3 := RepV.mono (V2.trans V3).ext _ _ r2
    split at q3
    · rename_i xs em
      obtain ⟨a, t, rfl, h3, ⟨us, rfl, z, rr⟩, nf, wr⟩ := mut_ok R3 (rx.evo V3) em
      split at q3
      · rename_i j
        split at q3
        · rename_i n en
          rw [rr.length] at en
          obtain ⟨R4, V4⟩ := wr (.lst (xs.set n p1)) (.lst (us.set n u1)) ⟨_, rfl, by simpa using z, rr.set n rp3⟩
          exact .inl ⟨a, us, _, n, rfl, repE_int ry, h3, en, u2, [], rfl, rfl, q3 G3 _ _ V4.ext (R4.setV _ (RepV.mono V4.ext _ _ rq3))⟩
        · exact q3.elim
      · exact q3.elim
    · rename_i ks xs em
      obtain ⟨a, t, rfl, h3, ⟨kvs, rfl, z, hk, rr⟩, nf, wr⟩ := mut_ok R3 (rx.evo V3) em
      split at q3
      · rename_i q eq
        split at q3
        · rename_i lt
          subst hk
          have lt' : kvs.length < sizeLine := by simpa using lt
          obtain ⟨R4, V4⟩ := wr _ _ (dStore_rep rp3 rr lt' (k := q))
          refine .inr ⟨a, _, rfl, ?_, u2, [], rfl, rfl, q3 G3 _ _ V4.ext (R4.setV _ (RepV.mono V4.ext _ _ rq3))⟩
          rw [key_rep ry eq]
          exact DPut.k h3 lt'
        · exact q3.elim
      · exact q3.elim
    · exact q3.elim
  · exact q.elim
end
end HF

end
section
set_option Elab.async false
set_option linter.all false
set_option maxRecDepth 20000
set_option autoImplicit false
/-! HF15: len(set(whole numbers)). -/
namespace HF
open PySem PySem.Spec PyProof.Rows L2
/-- the unlike ones, as first met -/
def unlike (ns : List Int) : List Int := ns.foldl step_dedup []
theorem unlike_met (ns : List Int) : firstMet (fun i => ns.getD i 0) ns.length = unlike ns := by
  unfold firstMet unlike
  congr 1
  apply List.ext_getElem?
  intro i
  rw [List.getElem?_map]
  by_cases h : i < ns.length
  · rw [List.getElem?_range h, Option.map_some, List.getElem?_eq_getElem h, List.getD_eq_getElem?_getD, List.getElem?_eq_getElem h]; rfl
  · rw [List.getElem?_eq_none (by simp; omega), List.getElem?_eq_none (by omega)]; rfl
section
variable {X : Cx} {E : Ent} {W : WX} {N : List Str} {sc : Scope} {fs : Str → Bool} {k : Nat} {Z : Wd}
def tLenSet (K : PySem.W.Frag) (ta : TE) : TE := fun σ H Q => ta σ H fun x H1 => ∃ (l : Addr) (ns : List Int), x = .ref l ∧ SqL K H1 l (ns.map V.int) ∧ ns.length ≤ 4000 ∧ Q (.int ((unlike ns).length : Nat)) H1
theorem pe_lenSet {a : Expr} {ta : TE} {p p2 q pos : Pos} (hg : Gl X "len") (hm : X.mg "len" = none) (hg2 : Gl X "set") (hm2 : X.mg "set" = none) (ha : PE X a ta) (hc : X.calm = true)
    (na : starEach [a] X.env = (false, eval a X.env) :: starEach [] X.env) : PE X (.Call (.Name "len" p) [.Call (.Name "set" p2) [a] [] q] [] pos) (tLenSet X.K ta) := by
  refine ⟨fun pins s σ H Q I h => Call_ (ld_blt I hg hm PySem.boot_len (PyProof.Rows.callWith_builtin1 (PyProof.Rows.args_cons ?_ rfl) rfl rfl))⟩
  refine Call_ (ld_blt I hg2 hm2 PyProof.Rows.boot_set (PyProof.Rows.callWith_type1 (PyProof.Rows.args_cons ?_ na) na rfl))
  refine thn (ha.run pins s σ H _ I h) fun v s1 ⟨x, H1, I1, r1, l, ns, ex, hq, hl, q1⟩ => PyProof.Rows.args_nil ?_
  subst ex
  cases r1
  obtain ⟨its, r, pl, hz⟩ := I1.list hq
  have sz : its.toArray.size = ns.length := by rw [List.size_toArray, ← r.length, List.length_map]
  refine call_set_list (I1.ok.hd hc) pl.isList (by simpa using RZ.intsAre_vals r) (by rw [sz]; unfold scanBound; omega) fun h' tk hS hk => PyProof.Rows.args_nil ?_
  rw [sz, unlike_met ns] at hS
  obtain ⟨o, es, ep, t, ho, hex, hd, _, _, _, hf, hn⟩ := hS
  have le : (unlike ns).length ≤ ns.length := by rw [← unlike_met ns]; exact firstMet_length_le _ _
  have J : Inv X pins σ H1 { s1 with heap := h', toks := tk } := I1.kept fun b o e => hk b o (Heap.lt_size e) e
  exact call_len_set ho hex hd hf (by rw [hn] <;> omega) ⟨.int ((unlike ns).length : Nat), H1, J.tok _, ⟨_, by rw [hn]⟩, q1⟩
@[simp] def opLenSet : Op1 := fun x M => match (asLst M x).bind asInts with
  | some ns => if ns.length ≤ 4000 then some (.v (.int ((unlike ns).length : Nat))) else none
  | none => none
theorem fe_lenSet (A : Amb Z X W N sc fs k) {a : Expr} {f : Sm EV} {p p2 q pos : Pos} (hm : Z.mg ("len" : Str) = none) (hm2 : Z.mg ("set" : Str) = none) (ha : FE X E W a f) (hg : sc.names.lookup ("len" : Str) = some .globalImplicit := by rfl) (hg2 : sc.names.lookup ("set" : Str) = some .globalImplicit := by rfl)
    (na : starEach [a] X.env = (false, eval a X.env) :: starEach [] X.env := by rfl) : FE X E W (.Call (.Name "len" p) [.Call (.Name "set" p2) [a] [] q] [] pos) (e1 opLenSet f) := by
  refine ⟨PE.weak (pe_lenSet (A.gl hg) (A.no hm) (A.gl hg2) (A.no hm2) ha.pe A.calm na) ?_⟩
  rintro s H Q ⟨G, M, R, h⟩
  refine tE_one R h fun G1 M1 H1 x u V1 R1 rx h1 => ?_
  simp only [opLenSet] at h1
  cases e1 : asLst M1 x with
  | none => rw [e1] at h1; exact h1.elim
  | some xs =>
    rw [e1] at h1
    simp only [Option.bind_some] at h1
    cases e2 : asInts xs with
    | none => rw [e2] at h1; exact h1.elim
    | some ns =>
      rw [e2] at h1
      simp only at h1
      split at h1
      · rename_i z
        obtain ⟨a, us, rfl, ha, ra, za⟩ := lst_of R1 rx e1
        have eu := asInts_rep e2 ra
        subst eu
        exact ⟨a, ns, rfl, ha, z, OutP.now h1 R1 _ (show RepV X.K G1 H1 (.int _) _ by simp only [RepV])⟩
      · exact h1.elim
end
end HF

end
section
set_option Elab.async false
set_option linter.all false
set_option maxRecDepth 20000
set_option autoImplicit false
/-! HF16: closures: cells that are told exactly, for a while. -/
namespace HF
open PySem PySem.Spec PyProof.Rows L2
/-- the object at c is o -/
def CellX (c : Addr) (o : Obj) : HO := .ext fun h => h.get? c = some o
abbrev Cells := List (Addr × Obj)
/-- the cells told -/
def wc (H : Hp) (cs : Cells) : Hp := fun a => match cs.lookup a with
  | some o => some (CellX a o)
  | none => H a
/-- .. and no longer -/
def wo (H : Hp) (cs : Cells) : Hp := fun a => match cs.lookup a with
  | some _ => none
  | none => H a
/-- H tells them -/
def Tells (H : Hp) (cs : Cells) : Prop := ∀ c o, cs.lookup c = some o → H c = some (CellX c o)
theorem wo_none {H : Hp} {cs : Cells} {a : Addr} (h : H a = none) : wo H cs a = none := by unfold wo; split <;> first | rfl | exact h
theorem wo_at {H : Hp} {cs : Cells} {a : Addr} {o : Obj} (h : cs.lookup a = some o) : wo H cs a = none := by unfold wo; rw [h]
theorem wo_out {H : Hp} {cs : Cells} {a : Addr} (h : cs.lookup a = none) : wo H cs a = H a := by unfold wo; rw [h]
theorem wc_at {H : Hp} {cs : Cells} {a : Addr} {o : Obj} (h : cs.lookup a = some o) : wc H cs a = some (CellX a o) := by unfold wc; rw [h]
theorem wc_out {H : Hp} {cs : Cells} {a : Addr} (h : cs.lookup a = none) : wc H cs a = H a := by unfold wc; rw [h]
theorem Tells.wc (H : Hp) (cs : Cells) : Tells (wc H cs) cs := fun c o h => wc_at h
/-- what is no cell is told in both -/
theorem Tells.out {H : Hp} {cs : Cells} (t : Tells H cs) {a : Addr} {u : HO} (h : H a = some u) (n : ∀ φ, u ≠ .ext φ) : cs.lookup a = none := by
  cases e : cs.lookup a with
  | none => rfl
  | some o => rw [t a o e] at h; cases h; exact absurd rfl (n _)
theorem objOk_mono {P : Program} {w : World} {H H' : Hp} {h : Heap} {a : Addr} {u : HO} (x : ObjOk P w H h a u) (k : ∀ b v, (∀ φ, v ≠ .ext φ) → H b = some v → H' b = some v) : ObjOk P w H' h a u := by
  induction u generalizing a with
  | frz o u ih => exact ⟨x.1, ih x.2⟩
  | dT kvs =>
    obtain ⟨h1, h2, xs, h3, h4⟩ := x
    exact ⟨h1, h2, xs, L2.Paired.mapP h3 fun p q ⟨e1, e2, e3⟩ => ⟨e1, k _ _ (fun _ z => nomatch z) e2, e3⟩, h4⟩
  | ins C dx fs =>
    obtain ⟨h1, h2⟩ := x
    exact ⟨k _ _ (fun _ z => nomatch z) h1, h2⟩
  | _ => exact x
theorem hok_wo {P : Program} {w : World} {H : Hp} {h : Heap} {cs : Cells} (x : HOk P w H h) (t : Tells H cs) : HOk P w (wo H cs) h := fun a u e => by
  cases l : cs.lookup a with
  | some o => rw [wo_at l] at e; cases e
  | none =>
    rw [wo_out l] at e
    exact objOk_mono (x a u e) fun b v n hb => by rw [wo_out (t.out hb n)]; exact hb
theorem cellX_ok {P : Program} {w : World} {H : Hp} {h : Heap} {c : Addr} {o : Obj} (e : h.get? c = some o) : ObjOk P w H h c (CellX c o) := ⟨e, ⟨o, e⟩, fun h1 h2 z k => k _ z⟩
theorem hok_wc {P : Program} {w : World} {H : Hp} {h : Heap} {cs : Cells} (x : HOk P w H h) (g : ∀ c o, cs.lookup c = some o → h.get? c = some o ∧ H c = none) : HOk P w (wc H cs) h := fun a u e => by
  cases l : cs.lookup a with
  | some o => rw [wc_at l] at e; cases e; exact cellX_ok (g a o l).1
  | none =>
    rw [wc_out l] at e
    refine objOk_mono (x a u e) fun b v n hb => ?_
    cases l2 : cs.lookup b with
    | some o => rw [(g b o l2).2] at hb; cases hb
    | none => rw [wc_out l2]; exact hb
theorem hok_at {P : Program} {w : World} {H : Hp} {h : Heap} {cs : Cells} (x : HOk P w H h) (t : Tells H cs) {c : Addr} {o : Obj} (l : cs.lookup c = some o) : h.get? c = some o := (x c _ (t c o l)).1
/-- a call for which the cells are told: seen from where they aren't -/
theorem CE.drop {outer : List Env} {P : Program} {w : World} {H : Hp} {s s' : Shared} {Q : VK} {u : Value} {cs : Cells} (g : ∀ c o, cs.lookup c = some o → s.heap.get? c = some o ∧ H c = none) (ff : ∀ c o, cs.lookup c = some o → c ∉ frs outer)
    (h : CE outer P w (wc H cs) s (fun v H' => Tells H' cs ∧ Q v (wo H' cs)) u s') : CE outer P w H s Q u s' := by
  obtain ⟨v, H', os, bare, un, hok, r, t, q⟩ := h
  refine ⟨v, wo H' cs, os, bare, ⟨fun b o e n f x => ?_, fun b o e n f x => ?_, fun b o e n x => ?_, un.there, fun b xs e => ?_, fun b o v e => ?_, fun b ps e => ?_⟩, hok_wo hok t, r, q⟩
  · cases l : cs.lookup b with
    | some o2 =>
      have e2 := (g b o2 l).1
      rw [e] at e2; cases e2
      exact hok_at hok t l
    | none => exact un.keep b o e (by rw [wc_out l]; exact n) f x
  · cases l : cs.lookup b with
    | some o2 => exact absurd f (ff b o2 l)
    | none => exact un.slot b o e (by rw [wc_out l]; exact n) f x
  · cases l : cs.lookup b with
    | some o2 => exact wo_at l
    | none => rw [wo_out l]; exact un.free b o e (by rw [wc_out l]; exact n) x
  · have l : cs.lookup b = none := by
      cases l : cs.lookup b with
      | none => rfl
      | some o2 => rw [(g b o2 l).2] at e; cases e
    rw [wo_out l]; exact un.tups b xs (by rw [wc_out l]; exact e)
  · have l : cs.lookup b = none := by
      cases l : cs.lookup b with
      | none => rfl
      | some o2 => rw [(g b o2 l).2] at e; cases e
    rw [wo_out l]; exact un.frzs b o v (by rw [wc_out l]; exact e)
  · have l : cs.lookup b = none := by
      cases l : cs.lookup b with
      | none => rfl
      | some o2 => rw [(g b o2 l).2] at e; cases e
    obtain ⟨m, z⟩ := un.tbls b ps (by rw [wc_out l]; exact e)
    exact ⟨m, by rw [wo_out l]; exact z⟩
/-- a call for which they are not told: seen from where they are -/
theorem CE.back {outer : List Env} {P : Program} {w : World} {H : Hp} {s s' : Shared} {Q : VK} {u : Value} {cs : Cells} (hok0 : HOk P w H s.heap) (t0 : Tells H cs) (ff : ∀ c o, cs.lookup c = some o → c ∉ frs outer)
    (h : CE outer P w (wo H cs) s (fun v H' => (∀ c o, cs.lookup c = some o → H' c = none) → Q v (wc H' cs)) u s') : CE outer P w H s Q u s' := by
  obtain ⟨v, H', os, bare, un, hok, r, q⟩ := h
  have at0 : ∀ c o, cs.lookup c = some o → s.heap.get? c = some o := fun c o l => hok_at hok0 t0 l
  have fr : ∀ c o, cs.lookup c = some o → H' c = none := fun c o l => un.free c o (at0 c o l) (wo_at l) (by simp)
  have kp : ∀ c o, cs.lookup c = some o → s'.heap.get? c = some o := fun c o l => un.keep c o (at0 c o l) (wo_at l) (ff c o l) (by simp)
  have nl : ∀ {b v}, H b = some v → (∀ φ, v ≠ .ext φ) → cs.lookup b = none := fun e n => t0.out e n
  have no : ∀ {b}, H b = none → cs.lookup b = none := fun {b} e => by
    cases l : cs.lookup b with
    | none => rfl
    | some o2 => rw [t0 b o2 l] at e; cases e
  refine ⟨v, wc H' cs, os, bare, ⟨fun b o e n f x => ?_, fun b o e n f x => ?_, fun b o e n x => ?_, un.there, fun b xs e => ?_, fun b o v e => ?_, fun b ps e => ?_⟩, hok_wc hok (fun c o l => ⟨kp c o l, fr c o l⟩), r, q fr⟩
  · exact un.keep b o e (wo_none n) f x
  · exact un.slot b o e (wo_none n) f x
  · rw [wc_out (no n)]; exact un.free b o e (wo_none n) x
  · have l := nl e fun _ z => nomatch z
    rw [wc_out l]; exact un.tups b xs (by rw [wo_out l]; exact e)
  · have l := nl e fun _ z => nomatch z
    rw [wc_out l]; exact un.frzs b o v (by rw [wo_out l]; exact e)
  · have l := nl e fun _ z => nomatch z
    obtain ⟨m, z⟩ := un.tbls b ps (by rw [wo_out l]; exact e)
    exact ⟨m, by rw [wc_out l]; exact z⟩
end HF

end
section
set_option Elab.async false
set_option linter.all false
set_option maxRecDepth 20000
set_option autoImplicit false
/-! HF17: closures: what is known of one, its call. -/
namespace HF
open PySem PySem.Spec PyProof.Rows L2 NdefX LamX
/-- a closure: its object, its words, its cells, what they hold -/
structure Clo where
  d : Addr
  F : NF
  cs : Cells
  ws : List V
  caps : List PV
structure CloAt (K : PySem.W.Frag) (fr : List Str) (G : Gh) (H : Hp) (C : Clo) : Prop where
  fn : H C.d = some (FnO C.d C.F)
  code : H C.F.c = some (CodeO C.F.c C.F.qual)
  tell : Tells H C.cs
  sepc : ∀ c o, C.cs.lookup c = some o → c ∉ G.al ∧ ¬ G.F c
  sepd : C.d ∉ G.al ∧ ¬ G.F C.d
  sepk : C.F.c ∉ G.al ∧ ¬ G.F C.F.c
  nd : C.cs.lookup C.d = none
  nc : C.cs.lookup C.F.c = none
  caps : RepVs K G H C.caps C.ws
  wlen : C.ws.length = fr.length
  cell : ∀ c o, C.cs.lookup c = some o → ∃ v, o.data = .cell v
  cin : ∀ y c, C.F.cl.lookup y = some c → ∃ o, C.cs.lookup c = some o
  inj : ∀ x y c, C.F.cl.lookup x = some c → C.F.cl.lookup y = some c → x = y
  has : ∀ (i : Nat) (y : Str), fr[i]? = some y → ∃ c o u v, C.F.cl.lookup y = some c ∧ C.cs.lookup c = some o ∧ o.data = .cell (some u) ∧ C.ws[i]? = some v ∧ L2.RelV v u
section
variable {K : PySem.W.Frag} {T : List NTab} {fr : List Str} {G G' : Gh} {H H' : Hp} {C : Clo}
theorem CloAt.step (c : CloAt K fr G H C) (p : Post T G H G' H') : CloAt K fr G' H' C where
  fn := p.keep _ _ c.fn c.sepd.1 c.sepd.2 fun _ z => nomatch z
  code := p.keep _ _ c.code c.sepk.1 c.sepk.2 fun _ z => nomatch z
  tell := fun a o l => p.keep _ _ (c.tell a o l) (c.sepc a o l).1 (c.sepc a o l).2 fun _ z => nomatch z
  sepc := fun a o l => ⟨p.noal (c.tell a o l) (c.sepc a o l).1, p.nof (c.tell a o l) (c.sepc a o l).2⟩
  sepd := ⟨p.noal c.fn c.sepd.1, p.nof c.fn c.sepd.2⟩
  sepk := ⟨p.noal c.code c.sepk.1, p.nof c.code c.sepk.2⟩
  nd := c.nd
  nc := c.nc
  caps := RepVs.mono p.ext _ _ c.caps
  wlen := c.wlen
  cell := c.cell
  cin := c.cin
  inj := c.inj
  has := c.has
theorem ext_wo {cs : Cells} (nf : ∀ c o, cs.lookup c = some o → ¬ G.F c) : Ext G H G (wo H cs) := ⟨fun _ h => h, fun a u f _ r => by
  have l : cs.lookup a = none := by
    cases l : cs.lookup a with
    | none => rfl
    | some o => exact absurd f (nf a o l)
  unfold Rd at r ⊢
  rw [wo_out l]; exact r, fun _ _ h => h, fun a o u f r => by
  have l : cs.lookup a = none := by
    cases l : cs.lookup a with
    | none => rfl
    | some o => exact absurd f (nf a o l)
  rw [wo_out l]; exact r⟩
theorem ext_wc {cs : Cells} (nf : ∀ c o, cs.lookup c = some o → ¬ G.F c) : Ext G H G (wc H cs) := ⟨fun _ h => h, fun a u f _ r => by
  have l : cs.lookup a = none := by
    cases l : cs.lookup a with
    | none => rfl
    | some o => exact absurd f (nf a o l)
  unfold Rd at r ⊢
  rw [wc_out l]; exact r, fun _ _ h => h, fun a o u f r => by
  have l : cs.lookup a = none := by
    cases l : cs.lookup a with
    | none => rfl
    | some o => exact absurd f (nf a o l)
  rw [wc_out l]; exact r⟩
theorem hprep_wo {cs : Cells} {h : List PO} (x : HpRep K G h H) (sep : ∀ c o, cs.lookup c = some o → c ∉ G.al ∧ ¬ G.F c) : HpRep K G h (wo H cs) := by
  have at_ : ∀ a, (a ∈ G.al ∨ G.F a) → cs.lookup a = none := fun a z => by
    cases l : cs.lookup a with
    | none => rfl
    | some o => exact (z.elim (sep a o l).1 (sep a o l).2).elim
  refine ⟨fun a f => (by rw [wo_out (at_ a (.inr f))]; exact x.fdom a f), x.nd, x.len, fun r a o e e' => ?_⟩
  obtain ⟨f, u, q, rr⟩ := x.obj r a o e e'
  exact ⟨f, u, by rw [wo_out (at_ a (.inl (List.mem_of_getElem? e)))]; exact q, rr.mono (ext_wo fun c o l => (sep c o l).2)⟩
/-- a cell is no code object, no table -/
theorem cell_nocode {P : Program} {w : World} {h : Heap} (ok : HOk P w H h) {cs : Cells} (t : Tells H cs) (cl : ∀ c o, cs.lookup c = some o → ∃ v, o.data = .cell v) {c : Addr} {q : Str} (e : H c = some (CodeO c q)) : cs.lookup c = none := by
  cases l : cs.lookup c with
  | none => rfl
  | some o =>
    obtain ⟨⟨oc, vs, tk, h1, h2, _⟩, _⟩ := ok c _ e
    have h3 := hok_at ok t l
    rw [h1] at h3; cases h3
    obtain ⟨v, h4⟩ := cl c _ l
    rw [h2] at h4; cases h4
theorem tabs_wo {P : Program} {w : World} {h : Heap} (ok : HOk P w H h) {cs : Cells} (t : Tells H cs) (cl : ∀ c o, cs.lookup c = some o → ∃ v, o.data = .cell v) (x : TabsOk T G H) : TabsOk T G (wo H cs) := fun p hp => by
  obtain ⟨ps, h1, h2, h3, h4, h5⟩ := x p hp
  refine ⟨ps, by rw [wo_out (t.out h1 fun _ z => nomatch z)]; exact h1, h2, h3, h4, fun pos cv e => ?_⟩
  obtain ⟨c, e1, e2, e3, e4⟩ := h5 pos cv e
  exact ⟨c, e1, by rw [wo_out (cell_nocode ok t cl e2)]; exact e2, e3, e4⟩
theorem cells_wo {P : Program} {w : World} {h : Heap} (ok : HOk P w H h) (c : CloAt K fr G H C) : CellsAt C.F.cl fr (C.ws.map some) h (wo H C.cs) where
  len := by rw [List.length_map]; exact c.wlen
  all := fun y a e => by
    obtain ⟨o, l⟩ := c.cin y a e
    obtain ⟨v, z⟩ := c.cell a o l
    exact ⟨wo_at l, v, o, hok_at ok c.tell l, z⟩
  inj := c.inj
  has := fun i y e => by
    obtain ⟨a, o, u, v, h1, h2, h3, h4, h5⟩ := c.has i y e
    refine ⟨a, h1, fun v' e' => ?_⟩
    rw [List.getElem?_map, h4] at e'
    cases e'
    exact ⟨u, h5, o, hok_at ok c.tell h2, h3⟩
theorem env0_wo {P : Program} {w : World} {mg : Str → Option Value} {base : Heap} {A : Around} {outer : List Env} {s : Shared} {cs : Cells} (e : Env0 P w K mg base A outer s H) (t : Tells H cs) : Env0 P w K mg base A outer s (wo H cs) :=
  ⟨e.frames, e.mod, fun b o q => ⟨(e.bs b o q).1, wo_none (e.bs b o q).2⟩, e.bsz, e.funs, fun b hb => wo_none (e.frf b hb), hok_wo e.hok t, e.bare⟩
/-- behind the closure's call: the cells told again -/
theorem post_wc {Hw : Hp} {h' : List PO} {cs : Cells} (t : Tells H cs) (sep : ∀ c o, cs.lookup c = some o → c ∉ G.al ∧ ¬ G.F c) (p : Post T G (wo H cs) G' Hw) (r : HpRep K G' h' Hw) (tw : TabsOk T G H → TabsOk T G (wo H cs)) (fr : ∀ c o, cs.lookup c = some o → Hw c = none) :
    Post T G H G' (wc Hw cs) ∧ HpRep K G' h' (wc Hw cs) ∧ (∀ a u, Hw a = some u → cs.lookup a = none) ∧ (∀ c o, cs.lookup c = some o → ¬ G'.F c) := by
  have no : ∀ a u, Hw a = some u → cs.lookup a = none := fun a u e => by
    cases l : cs.lookup a with
    | none => rfl
    | some o => rw [fr a o l] at e; cases e
  have nf : ∀ c o, cs.lookup c = some o → ¬ G'.F c := fun c o l z => by
    obtain ⟨u, e, _⟩ := r.fdom c z
    rw [fr c o l] at e; cases e
  have fo : ∀ a, G'.F a → cs.lookup a = none := fun a f => by
    cases l : cs.lookup a with
    | none => rfl
    | some o => exact absurd f (nf a o l)
  have x := ext_wc (H := Hw) nf
  have na : ∀ a, a ∈ G'.al → ∃ u, Hw a = some u := fun a ha => by
    obtain ⟨i, hi⟩ := List.getElem?_of_mem ha
    have lt : i < h'.length := by rw [r.len]; exact (List.getElem?_eq_some_iff.mp hi).1
    obtain ⟨_, u, e, _⟩ := r.obj i a h'[i] hi (List.getElem?_eq_getElem lt)
    exact ⟨u, e⟩
  refine ⟨⟨p.f, fun a f => ?_, ?_, fun a u e n f nt => ?_, fun tb => ?_, fun a u f pl rr => ?_, fun a e => ?_, fun a o u f rr => by
    have l : cs.lookup a = none := fo a (p.f a f)
    rw [wc_out l]; exact p.fz a o u f (by rw [wo_out l]; exact rr)⟩, ⟨fun a f => (by rw [wc_out (fo a f)]; exact r.fdom a f), r.nd, r.len, fun i a o e e' => ?_⟩, no, nf⟩
  · rcases p.fnew a f with z | z
    · exact .inl z
    · rw [wo_out (fo a f)] at z; exact .inr z
  · obtain ⟨l, e, z⟩ := p.al
    refine ⟨l, e, fun a ha => ?_⟩
    obtain ⟨u, hu⟩ := na a (by rw [e]; exact List.mem_append_right _ ha)
    have := z a ha
    rwa [wo_out (no a u hu)] at this
  · cases l : cs.lookup a with
    | some o => rw [t a o l] at e; cases e; exact wc_at l
    | none => rw [wc_out l]; exact p.keep a u (by rw [wo_out l]; exact e) n f nt
  · intro q hq
    obtain ⟨ps, h1, h2, h3, h4, h5⟩ := p.tabs (tw tb) q hq
    refine ⟨ps, by rw [wc_out (no _ _ h1)]; exact h1, h2, h3, h4, fun pos cv e => ?_⟩
    obtain ⟨c, e1, e2, e3, e4⟩ := h5 pos cv e
    exact ⟨c, e1, by rw [wc_out (no _ _ e2)]; exact e2, e3, e4⟩
  · have l : cs.lookup a = none := fo a (p.f a f)
    have := p.rd a u f pl (by unfold Rd at rr ⊢; rw [wo_out l]; exact rr)
    unfold Rd at this ⊢
    rw [wc_out l]; exact this
  · cases l : cs.lookup a with
    | some o => rw [wc_at l] at e; cases e
    | none =>
      rw [wc_out l] at e
      have := p.dom a e
      rwa [wo_out l] at this
  · obtain ⟨f, u, q, rr⟩ := r.obj i a o e e'
    exact ⟨f, u, by rw [wc_out (no _ _ q)]; exact q, rr.mono x⟩
end
/-- a closure's promise: its meaning is of its arguments, then what it captured -/
def spCl (T : List NTab) (K : PySem.W.Frag) (φ : Fn) (caps : List PV) : List (Option V) → Sp := fun ws vs H Q _ => ∃ G h ps, HpRep K G h H ∧ TabsOk T G H ∧ RepVs K G H ps vs ∧ (∃ us, ws = us.map some ∧ RepVs K G H caps us) ∧ match φ (ps ++ caps) h with
  | .ok e h' => ∀ G' H' u, Post T G H G' H' → HpRep K G' h' H' → RepR K H G' H' e u → Q u H'
  | _ => False
theorem CX_no {P : Program} {w : World} {outer : List Env} {H : Hp} {s : Shared} {e : Value} {s' : Shared} (h : L2.CX P w outer H s (fun _ _ _ => False) e s') : False := by
  obtain ⟨_, _, _, _, _, _, _, _, _, _, _, _, z⟩ := h
  exact z
end HF

end
section
set_option Elab.async false
set_option linter.all false
set_option maxRecDepth 20000
set_option autoImplicit false
/-! HF18: a closure's call; a closure's body; the def that is given one. -/
namespace HF
open PySem PySem.Spec PyProof.Rows L2 NdefX LamX
section
variable {X : Cx} {E : Ent} {W : WX} {N : List Str} {sc : Scope} {fs : Str → Bool} {k : Nat} {Z : Wd}
/-- a closure's call by the name of the slot that holds it -/
@[simp] def eClo (i : Nat) (d : Addr) (φ : Fn) (caps : List PV) (g : Sm (List PV)) : Sm EV := fun M => match slotAt M i with
  | some (.v (.con d')) => if d' = d then (g M).bnd fun ps M1 => match φ (ps ++ caps) M1.h with
      | .ok (.sl _) _ => .bad
      | .ok e h' => .ok e ⟨M1.r, h'⟩
      | _ => .bad
    else .bad
  | _ => .bad
theorem fe_clo (A : Amb Z X W N sc fs k) (hT : E.T = Z.T) {C : Clo} {fr ps : List Str} {kc i : Nat} {φ : Fn} {x : Str} {e : Expr} {es : List Expr} {p pos : Pos} {g : Sm (List PV)} (hC : CloAt Z.K fr E.G E.H C)
    (nk : NOk Z.P Z.w Z.K Z.mg Z.base (L2.CX Z.P Z.w) kc C.d C.F ps fr (spCl Z.T Z.K φ C.caps)) (hk : kc ≤ k) (hN : N[i]? = some x) (hv : visB sc x = true) (ha : FL X E W (e :: es) g)
    (hd : (x == ("__debug__" : Str)) = false := by decide) (hcd : (x == ("__classdict__" : Str)) = false := by decide)
    (he : starEach (e :: es) X.env = (false, eval e X.env) :: starEach es X.env := by rfl) (hpl : (backTo pos (starEach es X.env)).any (fun z => z.1) = false := by rfl) : FE X E W (.Call (.Name x p) (e :: es) [] pos) (eClo i C.d φ C.caps g) := by
  obtain ⟨s1, s2, s3, s4, s5⟩ := A.same
  rw [← s1, ← s2, ← s3, ← s4, ← s5] at nk
  rw [← s3] at hC
  refine ⟨⟨fun pins s σ H Q I h => ?_⟩⟩
  obtain ⟨G, M, R, h⟩ := h
  have slot : slotAt M i = some (.v (.con C.d)) ∧ OutP X E W σ G M H ((g M).bnd fun ps M1 => match φ (ps ++ C.caps) M1.h with
      | .ok (.sl _) _ => .bad
      | .ok e h' => .ok e ⟨M1.r, h'⟩
      | _ => .bad) (fun G' M' H' ev => ∀ u, RepE X.K E H G' M' σ H' ev u → Q u H') := by
    simp only [eClo] at h
    split at h
    · rename_i d' e1
      split at h
      · rename_i z; subst z; exact ⟨e1, h⟩
      · exact h.elim
    · exact h.elim
  obtain ⟨e1, h⟩ := slot
  obtain ⟨u, hs, ru⟩ := R.slot i _ (slotAt_some e1)
  simp only [RepV] at ru
  subst ru
  have c0 := hC.step R.post
  have hvis : Vis X.env.scope x := by rw [A.hs]; exact vis_of hv
  refine wpAny_Call_Name_kw (thn ((pe_var (pos := p) (by rw [A.hN]; exact hN) hvis hd hcd).run pins s σ H (fun v H1 => v = .ref C.d ∧ H1 = H) I ⟨.ref C.d, hs, rfl, rfl⟩) fun u s1 ⟨v, H1, I1, r1, q1⟩ => ?_)
  obtain ⟨ev, eH⟩ := q1
  subst ev
  rw [eH] at I1
  obtain rfl : u = Value.ref C.d := r1
  refine PySem.W.callWith_F (first := []) (fnAt_of I1 c0.fn) (thn (ha.fa.pe.run pos pins s1 σ H (fun vs H1 => ∃ G1 M1 ps, Evo σ G M H G1 M1 H1 ∧ StRep X.K E G1 M1 σ H1 ∧ RepVs X.K G1 H1 ps vs ∧ OutP X E W σ G1 M1 H1 (match φ (ps ++ C.caps) M1.h with
      | .ok (.sl _) _ => .bad
      | .ok e h' => .ok e ⟨M1.r, h'⟩
      | _ => .bad) (fun G' M' H' ev => ∀ u, RepE X.K E H G' M' σ H' ev u → Q u H')) I1 (tL_one R h fun G1 M1 H1 ps us V1 R1 rr q => ⟨G1, M1, ps, V1, R1, rr, q⟩)) fun us s2 ⟨vs, H2, I2, r, G1, M1, ps, V1, R1, rr, q⟩ => ?_) he hpl
  have c1 := hC.step R1.post
  refine ⟨fnAt_of I2 c1.fn, ?_⟩
  show wpAny (model X.prog X.w) X.A (call (.ref C.d) us) _ _ _
  have tb1 : TabsOk E.T G1 H2 := R1.post.tabs E.ok
  have tw := tabs_wo I2.hok c1.tell c1.cell (T := E.T) (G := G1)
  have frf : ∀ c o, C.cs.lookup c = some o → c ∉ frs X.stack := fun c o l z => by
    have := I2.stkFree c z
    rw [c1.tell c o l] at this; cases this
  -- the closure's promise, met
  have sp : spCl Z.T X.K φ C.caps (C.ws.map some) vs (wo H2 C.cs) (fun v H' => (∀ c o, C.cs.lookup c = some o → H' c = none) → Q v (wc H' C.cs)) (fun _ _ _ => False) := by
    refine ⟨G1, M1.h, ps, hprep_wo R1.hp c1.sepc, hT ▸ tw tb1, RepVs.mono (ext_wo fun c o l => (c1.sepc c o l).2) _ _ rr, ⟨C.ws, rfl, RepVs.mono (ext_wo fun c o l => (c1.sepc c o l).2) _ _ c1.caps⟩, ?_⟩
    cases hφ : φ (ps ++ C.caps) M1.h with
    | bad => rw [hφ] at q; exact q
    | exn c h' => rw [hφ] at q; exact q
    | ok ev h' =>
      rw [hφ] at q
      intro G' Hw u p2 r2 ru fr0
      obtain ⟨p3, r3, no, nf⟩ := post_wc c1.tell c1.sepc (hT ▸ p2) r2 tw fr0
      obtain ⟨R3, V3⟩ := R1.called p3 r3
      have x := ext_wc (H := Hw) nf
      cases ev with
      | v pv => exact q G' _ V3 R3 u (RepV.mono x _ _ ru)
      | sl j => exact q.elim
      | fr o =>
        obtain ⟨a, w, rfl, h1, ro, hn, nf', nl⟩ := ru
        have na : C.cs.lookup a = none := no a w h1
        rw [wo_out na] at hn
        have noo : ¬ OwnAt M1.r σ a := fun ⟨j, o2, e1, e2⟩ => by
          obtain ⟨b, w2, z1, z2, _⟩ := R1.own j o2 e1
          rw [e2] at z1; cases z1
          rw [hn] at z2; cases z2
        exact q G' _ V3 R3 _ ⟨a, w, rfl, by rw [wc_out na]; exact h1, ro.mono x, R1.post.dom a hn, nf', nl, noo, V1.dom a hn⟩
  refine wpAny_call (codeAny_mono (nk.run X.A X.stack s2 (wo H2 C.cs) us vs (C.ws.map some) _ _ (A.room.mono hk) (env0_wo I2.env0 c1.tell) (by rw [wo_out c1.nd]; exact c1.fn) (by rw [wo_out c1.nc]; exact c1.code) (cells_wo I2.hok c1) r sp) fun z s' hq => ?_)
  cases z with
  | error e => exact (CX_no hq).elim
  | ok fl =>
    cases fl with
    | ret u => exact I2.after (CE.back I2.hok c1.tell frf hq)
    | next => exact False.elim hq
    | brk => exact False.elim hq
    | cont => exact False.elim hq
end
end HF

end
section
set_option Elab.async false
set_option linter.all false
set_option maxRecDepth 20000
set_option autoImplicit false
/-! HF19: a closure's body; defs that ask more of their entry. -/
namespace HF
open PySem PySem.Spec PyProof.Rows L2 NdefX LamX
section
variable {X : Cx} {E : Ent} {W : WX} {N : List Str} {sc : Scope} {fs : Str → Bool} {k : Nat} {Z : Wd}
theorem some_map {α : Type} (l : List α) : (l.map some).length = l.length := List.length_map ..
theorem startF_eq (N : List Str) (vs us : List V) : startF N vs (us.map some) = L2.start N (vs ++ us) := by
  unfold startF L2.start
  rw [List.map_append, List.append_assoc, List.length_map, List.length_append, Nat.sub_sub]
theorem clo_ok {F : NF} {f : Addr} {fr ps : List Str} {caps : List PV} {fb : Ss} (S : NScope N ps fr F.scope) (hcl : caps.length = fr.length)
    (hb : ∀ (doc pm ctv : Value) (us : List Value), us.length = ps.length → bindArgs (F.fd doc pm ctv) ⟨us, []⟩ = pure (ps.zip us))
    (hbd : ∀ X E W, Amb Z X W N F.scope (fun _ => false) k → E.T = Z.T → FSs X E W F.body fb) : NOk Z.P Z.w Z.K Z.mg Z.base (L2.CX Z.P Z.w) (k + 1) f F ps fr (spCl Z.T Z.K (runDef (ps.length + fr.length) N.length fb) caps) := by
  refine nok_of S hb (fun ws vs H Q Ex h => ?_) fun A outer s H vs ws Q Ex hr hf hc hw h => ?_
  · obtain ⟨G, h, ps', hp, tb, r, ⟨us, rfl, rc⟩, q⟩ := h
    by_cases hl : (ps' ++ caps).length = ps.length + fr.length
    · rw [List.length_append, r.length] at hl; omega
    · unfold runDef at q
      rw [if_neg hl] at q
      exact q.elim
  · obtain ⟨G, h, ps', hp, tb, r, ⟨us, rfl, rc⟩, q⟩ := h
    have amb : Amb Z (ncx (L2.CX Z.P Z.w) Z.P Z.w Z.K Z.mg Z.base N F f A outer s H Ex) (fun c d _ H' => Ex c d H') N F.scope (fun _ => false) k :=
      ⟨rfl, rfl, ⟨rfl, rfl, rfl, rfl, rfl⟩, rfl, S.nd, rfl, hr, takes_of rfl rfl rfl rfl, passes_of rfl⟩
    refine ⟨_, (hbd _ ⟨G, H, Z.T, tb⟩ _ amb rfl).ps, ?_⟩
    by_cases hl : (ps' ++ caps).length = ps.length + fr.length
    · rw [startF_eq]
      refine ⟨G, ⟨(ps' ++ caps).map (fun p => some (LV.v p)) ++ List.replicate (N.length - (ps.length + fr.length)) none, h⟩, start_rep hp (r.append rc) tb hl rfl, ?_⟩
      unfold runDef at q
      rw [if_pos hl] at q
      generalize fb ⟨(ps' ++ caps).map (fun p => some (LV.v p)) ++ List.replicate (N.length - (ps.length + fr.length)) none, h⟩ = z at q
      cases z with
      | nx M => exact fun G' s' H' x R' => q G' H' _ R'.post R'.hp (show RepV Z.K G' H' .non .non by simp only [RepV])
      | ret e M =>
        intro G' s' H' u R' ru
        cases e with
        | v p => exact q G' H' u R'.post R'.hp ru
        | fr o =>
          obtain ⟨a, w, e, h1, ro, hn, nf, nl, no, _⟩ := ru
          exact q G' H' u R'.post R'.hp ⟨a, w, e, h1, ro, hn, nf, nl⟩
        | sl i => exact q.elim
      | exn c M => exact q.elim
      | brk M => exact q.elim
      | cnt M => exact q.elim
      | bad => exact q.elim
    · unfold runDef at q
      rw [if_neg hl] at q
      exact q.elim
/-! ### defs that ask more of their entry -/
def spP (I : Gh → Hp → Prop) (T : List NTab) (K : PySem.W.Frag) (mg : Str → Option Value) (φ : Fn) : Sp := fun vs H Q Ex => ∃ G h ps, HpRep K G h H ∧ TabsOk T G H ∧ RepVs K G H ps vs ∧ I G H ∧ match φ ps h with
  | .ok e h' => ∀ G' H' u, Post T G H G' H' → HpRep K G' h' H' → RepR K H G' H' e u → Q u H'
  | .exn c h' => ∀ G' H' C, Post T G H G' H' → HpRep K G' h' H' → mg c = some (.ref C) → Ex (.ref C) none H'
  | .bad => False
structure KnownP (Z : Wd) (I : Gh → Hp → Prop) (k : Nat) (x : Str) (ds : List PV) (φ : Fn) : Prop where
  ok : ∃ (f : Addr) (fd : FuncData) (ps : List Str) (dvs : List V) (dus : List Value), FnOk Z.P Z.w Z.K Z.mg Z.base (L2.CX Z.P Z.w) k f fd ps (spP I Z.T Z.K Z.mg φ) ∧ Z.mg x = some (.ref f) ∧ PySem.W.keepIn Z.K (.ref f) = true ∧ Binds Z.K fd ps dus ∧ Vals dvs dus ∧ ∀ G H, RepVs Z.K G H ds dvs
theorem KnownP.mono {I : Gh → Hp → Prop} {x : Str} {ds : List PV} {φ : Fn} {j : Nat} (h : KnownP Z I j x ds φ) (l : j ≤ k) : KnownP Z I k x ds φ := by
  obtain ⟨f, fd, ps, dvs, dus, F, r⟩ := h.ok
  exact ⟨f, fd, ps, dvs, dus, F.mono l, r⟩
theorem fe_callP (A : Amb Z X W N sc fs k) (hT : E.T = Z.T) {I : Gh → Hp → Prop} (hI : ∀ G M s H, StRep Z.K E G M s H → I G H) {x : Str} {e : Expr} {es : List Expr} {p pos : Pos} {g : Sm (List PV)} {φ : Fn} {ds : List PV} (hK : KnownP Z I k x ds φ) (ha : FL X E W (e :: es) g)
    (hg : sc.names.lookup x = some .globalImplicit := by rfl) (hdb : (x == ("__debug__" : Str)) = false := by decide)
    (he : starEach (e :: es) X.env = (false, eval e X.env) :: starEach es X.env := by rfl) (hpl : (backTo pos (starEach es X.env)).any (fun z => z.1) = false := by rfl) : FE X E W (.Call (.Name x p) (e :: es) [] pos) (eCall φ ds g) := by
  obtain ⟨f, fd, ps, dvs, dus, F, hm, hk, hb, hd, hr⟩ := hK.ok
  obtain ⟨s1, s2, s3, s4, s5⟩ := A.same
  rw [← s1, ← s2, ← s3, ← s4, ← s5] at F
  rw [← s3] at hk hb hr hI
  rw [← s4] at hm
  refine ⟨⟨fun pins s σ H Q J h => ?_⟩⟩
  obtain ⟨G, M, R, h⟩ := h
  refine wpAny_Call_Name_kw (ld_glob J (A.gl hg) hm ?_ hdb)
  refine PySem.W.callWith_K (h₀ := X.base) J.ok.mod.kin hk (thn (ha.fa.pe.run pos pins s σ H (fun vs H1 => spP I Z.T X.K X.mg φ (vs ++ dvs) H1 Q (WE W σ)) J ?_) fun us s1 ⟨vs, H1, I1, r, q⟩ => ⟨I1.kIn, run_fnD F A.room hb hd A.tk I1 r q⟩) he hpl
  refine tL_one R h fun G1 M1 H1 ps us V1 R1 rr q => ?_
  refine ⟨G1, M1.h, ps ++ ds, R1.hp, hT ▸ R1.post.tabs E.ok, rr.append (hr G1 H1), hI _ _ _ _ R1, ?_⟩
  cases hφ : φ (ps ++ ds) M1.h with
  | bad => rw [hφ] at q; exact q
  | exn c h' =>
    rw [hφ] at q
    intro G2 H2 C p2 r2 m
    obtain ⟨R3, V3⟩ := R1.called (hT ▸ p2) r2
    exact q G2 H2 C V3.ext R3 m
  | ok ev h' =>
    rw [hφ] at q
    intro G2 H2 u p2 r2 ru
    obtain ⟨R3, V3⟩ := R1.called (hT ▸ p2) r2
    cases ev with
    | v pv => exact q G2 H2 V3 R3 u ru
    | sl i => exact q.elim
    | fr o =>
      obtain ⟨a, w, rfl, h1, ro, hn, nf, nl⟩ := ru
      have no : ¬ OwnAt M1.r σ a := fun ⟨i, o2, e1, e2⟩ => by
        obtain ⟨b, w2, z1, z2, _⟩ := R1.own i o2 e1
        rw [e2] at z1; cases z1
        rw [hn] at z2; cases z2
      exact q G2 H2 V3 R3 _ ⟨a, w, rfl, h1, ro, R1.post.dom a hn, nf, nl, no, V1.dom a hn⟩
/-- a def with defaults that asks I of its entry -/
theorem defP_ok {I : Gh → Hp → Prop} {x qual : Str} {params : Arguments} {body : List Stmt} {dvs : List V} {kws : List (Str × V)} {f : Addr} {fd : FuncData} {ps : List Str} {fb : Ss} (F : FunD Z.K x qual params body sc dvs kws f fd) (S : FnScope N ps sc)
    (hb : ∀ X E W, Amb Z X W N sc (fun _ => true) k → E.T = Z.T → I E.G E.H → FSs X E W body fb) : FnOk Z.P Z.w Z.K Z.mg Z.base (L2.CX Z.P Z.w) (k + 1) f fd ps (spP I Z.T Z.K Z.mg (runDef ps.length N.length fb)) := by
  refine F.ok S (fun vs H Q Ex h => ?_) fun cdv A outer s H vs Q Ex hr h => ?_
  · obtain ⟨G, h, ps', hp, tb, r, _, q⟩ := h
    by_cases hl : ps'.length = ps.length
    · rw [← r.length]; exact hl
    · unfold runDef at q
      rw [if_neg hl] at q
      exact q.elim
  · obtain ⟨G, h, ps', hp, tb, r, hI, q⟩ := h
    have amb : Amb Z (cxOf (L2.CX Z.P Z.w) Z.P Z.w Z.K Z.mg Z.base N qual sc f cdv A outer s H Ex) (fun c d _ H' => Ex c d H') N sc (fun _ => true) k :=
      ⟨rfl, rfl, ⟨rfl, rfl, rfl, rfl, rfl⟩, rfl, S.nd, rfl, hr, takes_of rfl rfl rfl rfl, passes_of rfl⟩
    refine ⟨_, (hb _ ⟨G, H, Z.T, tb⟩ _ amb rfl hI).ps, ?_⟩
    by_cases hl : ps'.length = ps.length
    · refine ⟨G, ⟨ps'.map (fun p => some (LV.v p)) ++ List.replicate (N.length - ps.length) none, h⟩, start_rep hp r tb hl rfl, ?_⟩
      unfold runDef at q
      rw [if_pos hl] at q
      generalize fb ⟨ps'.map (fun p => some (LV.v p)) ++ List.replicate (N.length - ps.length) none, h⟩ = z at q
      cases z with
      | nx M => exact fun G' s' H' x R' => q G' H' _ R'.post R'.hp (show RepV Z.K G' H' .non .non by simp only [RepV])
      | ret e M =>
        intro G' s' H' u R' ru
        cases e with
        | v p => exact q G' H' u R'.post R'.hp ru
        | fr o =>
          obtain ⟨a, w, e, h1, ro, hn, nf, nl, no, _⟩ := ru
          exact q G' H' u R'.post R'.hp ⟨a, w, e, h1, ro, hn, nf, nl⟩
        | sl i => exact q.elim
      | exn c M => exact fun G' s' H' C _ R' m => q G' H' C R'.post R'.hp m
      | brk M => exact q.elim
      | cnt M => exact q.elim
      | bad => exact q.elim
    · unfold runDef at q
      rw [if_neg hl] at q
      exact q.elim
end
end HF

end
section
set_option Elab.async false
set_option linter.all false
set_option maxRecDepth 20000
set_option autoImplicit false
/-! HF20: a def that makes a closure and hands it on. -/
namespace HF
open PySem PySem.Spec PyProof.Rows L2 NdefX LamX
section
variable {X : Cx} {E : Ent} {W : WX} {N : List Str} {sc : Scope} {fs : Str → Bool} {k : Nat} {Z : Wd}
theorem TabsOk.tabsN {T : List NTab} {G : Gh} {H : Hp} (t : TabsOk T G H) : TabsN T H := fun p hp => by
  obtain ⟨ps, h1, h2, _, _, h5⟩ := t p hp
  exact ⟨ps, h1, h2, fun pos cv e => by obtain ⟨c, e1, e2, _⟩ := h5 pos cv e; exact ⟨c, e1, e2⟩⟩
/-- what is known of a heap in which tables grew and things were laid -/
theorem StRep.grown {K : PySem.W.Frag} {G : Gh} {M : Mem} {s : L2.St} {H H1 : Hp} (R : StRep K E G M s H) (x : ExtN H H1) (dm : ∀ b, H1 b = none → H b = none) (tb : TabsN E.T H1) :
    StRep K E G M s H1 ∧ Evo s G M H G M H1 ∧ (∀ c φ, H1 c = some (.ext φ) → c ∉ G.al ∧ ¬ G.F c) := by
  have al : ∀ a, a ∈ G.al → ∃ u, H a = some u ∧ NoX u := fun a ha => by
    obtain ⟨i, hi⟩ := List.getElem?_of_mem ha
    have lt : i < M.h.length := by rw [R.hp.len]; exact (List.getElem?_eq_some_iff.mp hi).1
    obtain ⟨_, u, e, r⟩ := R.hp.obj i a M.h[i] hi (List.getElem?_eq_getElem lt)
    exact ⟨u, e, r.nox⟩
  have sep : ∀ c φ, H1 c = some (.ext φ) → c ∉ G.al ∧ ¬ G.F c := fun c φ e => by
    refine ⟨fun z => ?_, fun z => ?_⟩
    · obtain ⟨u, h, n⟩ := al c z
      have := x c u h n.2
      rw [e] at this; cases this
      exact n.1 _ rfl
    · obtain ⟨u, h, n⟩ := R.hp.fdom c z
      have := x c u h n.2
      rw [e] at this; cases this
      exact n.1 _ rfl
  have ex : Ext G H G H1 := ⟨fun _ h => h, fun a u _ pl r => by
    rcases r with r | ⟨o, r⟩
    · exact .inl (x a u r fun ps z => by subst z; exact pl)
    · exact .inr ⟨o, x a _ r fun _ z => nomatch z⟩, fun _ _ h => h, fun a o u _ r => x a _ r fun _ z => nomatch z⟩
  refine ⟨⟨⟨R.post.f, R.post.fnew, R.post.al, fun a u e n f nt => x a u (R.post.keep a u e n f nt) nt, fun _ => ?_, fun a u f pl r => ex.rd a u (R.post.f a f) pl (R.post.rd a u f pl r), fun a e => R.post.dom a (dm a e), fun a o u f r => ex.fz a o u (R.post.f a f) (R.post.fz a o u f r)⟩,
      ⟨fun a f => ?_, R.hp.nd, R.hp.len, fun r a o e e' => ?_⟩, R.len, fun i p e => ?_, fun i o e => ?_, R.sep⟩, ⟨ex, fun a u e n f ow nt => ⟨x a u e nt, n, f⟩, fun _ h => h, dm⟩, sep⟩
  · intro p hp
    obtain ⟨ps0, q1, q2, q3, q4, q5⟩ := R.post.tabs E.ok p hp
    obtain ⟨ps, h1, h2, h3⟩ := tb p hp
    refine ⟨ps, h1, h2, q3, q4, fun pos cv e => ?_⟩
    obtain ⟨c, e1, e2⟩ := h3 pos cv e
    exact ⟨c, e1, e2, (sep c _ e2).1, (sep c _ e2).2⟩
  · obtain ⟨u, h, n⟩ := R.hp.fdom a f
    exact ⟨u, x a u h n.2, n⟩
  · obtain ⟨f, u, q, rr⟩ := R.hp.obj r a o e e'
    exact ⟨f, u, x a u q rr.nox.2, rr.mono ex⟩
  · obtain ⟨u, h1, h2⟩ := R.slot i p e
    exact ⟨u, h1, RepV.mono ex _ _ h2⟩
  · obtain ⟨a, u, h1, h2, h3, h4⟩ := R.own i o e
    exact ⟨a, u, h1, x a u h2 h3.nox.2, h3.mono ex, h4⟩
/-- behind a call for which the cells were told -/
theorem post_wo {K : PySem.W.Frag} {T : List NTab} {G G' : Gh} {H Hp' : Hp} {h' : List PO} {cs : Cells} (nn : ∀ c o, cs.lookup c = some o → H c = none) (sep : ∀ c o, cs.lookup c = some o → c ∉ G.al ∧ ¬ G.F c) (p : Post T G (wc H cs) G' Hp') (r : HpRep K G' h' Hp')
    {P : Program} {w : World} {hh : Heap} (ok : HOk P w Hp' hh) (cl : ∀ c o, cs.lookup c = some o → ∃ v, o.data = .cell v) :
    Post T G H G' (wo Hp' cs) ∧ HpRep K G' h' (wo Hp' cs) ∧ Tells Hp' cs ∧ (∀ c o, cs.lookup c = some o → c ∉ G'.al ∧ ¬ G'.F c) := by
  have t' : Tells Hp' cs := fun c o l => p.keep _ _ (wc_at l) (sep c o l).1 (sep c o l).2 fun _ z => nomatch z
  have sep' : ∀ c o, cs.lookup c = some o → c ∉ G'.al ∧ ¬ G'.F c := fun c o l => ⟨p.noal (wc_at (H := H) l) (sep c o l).1, p.nof (wc_at (H := H) l) (sep c o l).2⟩
  have out : ∀ {a u}, H a = some u → cs.lookup a = none := fun {a u} e => by
    cases l : cs.lookup a with
    | none => rfl
    | some o => rw [nn a o l] at e; cases e
  have fro : ∀ {a}, wc H cs a = none → H a = none := fun {a} e => by
    cases l : cs.lookup a with
    | none => rwa [wc_out l] at e
    | some o => rw [wc_at l] at e; cases e
  refine ⟨⟨p.f, fun a f => (p.fnew a f).imp id fro, ?_, fun a u e n f nt => ?_, fun tb => ?_, fun a u f pl rr => ?_, fun a e => ?_, fun a o u f rr => by
    have l : cs.lookup a = none := by
      cases l : cs.lookup a with
      | none => rfl
      | some o => exact absurd f (sep a o l).2
    rw [wo_out l]; exact p.fz a o u f (by rw [wc_out l]; exact rr)⟩, hprep_wo r sep', t', sep'⟩
  · obtain ⟨l, e, z⟩ := p.al
    exact ⟨l, e, fun a ha => fro (z a ha)⟩
  · rw [wo_out (out e)]; exact p.keep a u (by rw [wc_out (out e)]; exact e) n f nt
  · refine tabs_wo ok t' cl (p.tabs fun q hq => ?_)
    obtain ⟨ps, h1, h2, h3, h4, h5⟩ := tb q hq
    refine ⟨ps, by rw [wc_out (out h1)]; exact h1, h2, h3, h4, fun pos cv e => ?_⟩
    obtain ⟨c, e1, e2, e3, e4⟩ := h5 pos cv e
    exact ⟨c, e1, by rw [wc_out (out e2)]; exact e2, e3, e4⟩
  · have l : cs.lookup a = none := by
      cases l : cs.lookup a with
      | none => rfl
      | some o => exact absurd f (sep a o l).2
    have := p.rd a u f pl (by unfold Rd at rr ⊢; rw [wc_out l]; exact rr)
    unfold Rd at this ⊢
    rw [wo_out l]; exact this
  · cases l : cs.lookup a with
    | some o => exact nn a o l
    | none =>
      rw [wo_out l] at e
      exact fro (p.dom a e)
open Classical in
/-- the common end, where it doesn't hang on the address -/
noncomputable def sIndep (φ : Addr → Ss) : Ss := fun M => if h : ∃ r, ∀ d, φ d M = r then choose h else .bad
theorem sIndep_eq {φ : Addr → Ss} {M : Mem} {r : SR} (h : ∀ d, φ d M = r) : sIndep φ M = r := by
  unfold sIndep
  rw [dif_pos ⟨r, h⟩]
  have := Classical.choose_spec (⟨r, h⟩ : ∃ r, ∀ d, φ d M = r)
  rw [← this 0, h]
theorem sIndep_or (φ : Addr → Ss) (M : Mem) : sIndep φ M = .bad ∨ ∀ d, φ d M = sIndep φ M := by
  unfold sIndep
  split
  · rename_i h; exact .inr (Classical.choose_spec h)
  · exact .inl rfl
end
end HF

end
section
set_option Elab.async false
set_option linter.all false
set_option maxRecDepth 20000
set_option autoImplicit false
/-! HF21: the call that hands a new closure on. -/
namespace HF
open PySem PySem.Spec PyProof.Rows L2 NdefX LamX
def noObj : Obj := ⟨.none, none, .fields #[], #[]⟩
def cellsOfC (cl : List (Str × Addr)) (fr : List Str) (h : Heap) : Cells := fr.filterMap fun y => (cl.lookup y).map fun c => (c, (h.get? c).getD noObj)
theorem lookup_mem {α : Type} : ∀ {l : List (Addr × α)} {a : Addr} {b : α}, l.lookup a = some b → (a, b) ∈ l
  | (k, v) :: r, a, b, h => by
    rw [List.lookup_cons] at h
    cases hb : a == k with
    | true => rw [hb] at h; have := eq_of_beq hb; subst this; cases h; exact List.mem_cons_self
    | false => rw [hb] at h; exact List.mem_cons_of_mem _ (lookup_mem h)
theorem mem_lookupA {α : Type} : ∀ {l : List (Addr × α)} {a : Addr} {b : α}, (a, b) ∈ l → ∃ b', l.lookup a = some b'
  | (k, v) :: r, a, b, h => by
    rw [List.lookup_cons]
    cases hb : a == k with
    | true => exact ⟨v, rfl⟩
    | false =>
      rcases List.mem_cons.mp h with z | z
      · cases z; simp at hb
      · exact mem_lookupA z
theorem cells_some {cl : List (Str × Addr)} {fr : List Str} {h : Heap} {c : Addr} {o : Obj} (e : (cellsOfC cl fr h).lookup c = some o) : ∃ y ∈ fr, cl.lookup y = some c ∧ o = (h.get? c).getD noObj := by
  have m := lookup_mem e
  unfold cellsOfC at m
  obtain ⟨y, hy, z⟩ := List.mem_filterMap.mp m
  cases l : cl.lookup y with
  | none => rw [l] at z; cases z
  | some c' => rw [l] at z; cases z; exact ⟨y, hy, l, rfl⟩
theorem cells_in {cl : List (Str × Addr)} {fr : List Str} {h : Heap} {c : Addr} {y : Str} (hy : y ∈ fr) (l : cl.lookup y = some c) : (cellsOfC cl fr h).lookup c = some ((h.get? c).getD noObj) := by
  have m : (c, (h.get? c).getD noObj) ∈ cellsOfC cl fr h := by
    unfold cellsOfC
    exact List.mem_filterMap.mpr ⟨y, hy, by rw [l]; rfl⟩
  obtain ⟨o, e⟩ := mem_lookupA m
  obtain ⟨_, _, _, z⟩ := cells_some e
  rw [e, z]
section
variable {X : Cx} {E : Ent} {W : WX} {N : List Str} {sc : Scope} {fs : Str → Bool} {k : Nat} {Z : Wd}
def capsOf : List Nat → Mem → Option (List PV)
  | [], _ => some []
  | j :: js, M => match HF.slotAt M j with
    | some (.v p) => (capsOf js M).map (p :: ·)
    | _ => none
theorem caps_rep {K : PySem.W.Frag} {G : Gh} {M : Mem} {s : L2.St} {H : Hp} (R : StRep K E G M s H) : ∀ {js : List Nat} {caps : List PV}, capsOf js M = some caps → ∃ us : List V, js.map (NdefX.slotAt s) = us.map some ∧ RepVs K G H caps us
  | [], caps, e => by cases e; exact ⟨[], rfl, RepVs.nil⟩
  | j :: js, caps, e => by
    unfold capsOf at e
    split at e
    · rename_i p ep
      cases e1 : capsOf js M with
      | none => rw [e1] at e; cases e
      | some cs =>
        rw [e1] at e; cases e
        obtain ⟨us, h1, h2⟩ := caps_rep R e1
        obtain ⟨u, h3, h4⟩ := R.slot j p (slotAt_some ep)
        exact ⟨u :: us, by rw [List.map_cons, List.map_cons, slotAt_of h3, h1], RepVs.cons h4 h2⟩
    · cases e
/-- the closure d is made of what stands in js, handed on with the slot it and ds -/
def sMake (it ic : Nat) (js : List Nat) (ds : List PV) (w : Addr → List PV → Fn) (d : Addr) : Ss := fun M => match HF.slotAt M it, capsOf js M with
  | some (.v pt), some caps => if ic < M.r.length then (match w d caps ([pt, .con d] ++ ds) M.h with
    | .ok (.sl _) _ => .bad
    | .ok e h' => .ret e ⟨M.r.set ic none, h'⟩
    | _ => .bad) else .bad
  | _, _ => .bad
/-- the reading of that call -/
def tMake (X : Cx) (E : Ent) (mk : Addr → NF) (it ic : Nat) (js : List Nat) (ds : List PV) (w : Addr → List PV → Fn) : TE := fun σ H Q => ∃ (f c' : Addr) (G : Gh) (M : Mem) (pt : PV) (caps : List PV), StRep X.K E G M σ H ∧ HF.slotAt M it = some (.v pt) ∧ HF.slotAt M ic = some (.v (.con f)) ∧ capsOf js M = some caps ∧
  H f = some (FnO f (mk c')) ∧ H (mk c').c = some (CodeO (mk c').c (mk c').qual) ∧ (f ∉ G.al ∧ ¬ G.F f) ∧ ((mk c').c ∉ G.al ∧ ¬ G.F (mk c').c) ∧
  match w f caps ([pt, .con f] ++ ds) M.h with
  | .ok (.sl _) _ => False
  | .ok e h' => ∀ G' H' u, StRep X.K E G' ⟨M.r, h'⟩ σ H' → RepE X.K E E.H G' ⟨M.r, h'⟩ σ H' e u → Q u H'
  | _ => False
theorem hprep_wc {K : PySem.W.Frag} {G : Gh} {h : List PO} {H : Hp} {cs : Cells} (x : HpRep K G h H) (nn : ∀ c o, cs.lookup c = some o → H c = none) : HpRep K G h (wc H cs) ∧ ∀ c o, cs.lookup c = some o → c ∉ G.al ∧ ¬ G.F c := by
  have out : ∀ {a u}, H a = some u → cs.lookup a = none := fun {a u} e => by
    cases l : cs.lookup a with
    | none => rfl
    | some o => rw [nn a o l] at e; cases e
  have al : ∀ a, a ∈ G.al → ∃ u, H a = some u := fun a ha => by
    obtain ⟨i, hi⟩ := List.getElem?_of_mem ha
    have lt : i < h.length := by rw [x.len]; exact (List.getElem?_eq_some_iff.mp hi).1
    obtain ⟨_, u, e, _⟩ := x.obj i a h[i] hi (List.getElem?_eq_getElem lt)
    exact ⟨u, e⟩
  have sep : ∀ c o, cs.lookup c = some o → c ∉ G.al ∧ ¬ G.F c := fun c o l => by
    refine ⟨fun z => ?_, fun z => ?_⟩
    · obtain ⟨u, e⟩ := al c z; rw [nn c o l] at e; cases e
    · obtain ⟨u, e, _⟩ := x.fdom c z; rw [nn c o l] at e; cases e
  refine ⟨⟨fun a f => ?_, x.nd, x.len, fun r a o e e' => ?_⟩, sep⟩
  · obtain ⟨u, e, n⟩ := x.fdom a f
    exact ⟨u, by rw [wc_out (out e)]; exact e, n⟩
  · obtain ⟨f, u, q, rr⟩ := x.obj r a o e e'
    exact ⟨f, u, by rw [wc_out (out q)]; exact q, rr.mono (ext_wc fun c o l => (sep c o l).2)⟩
theorem pe_make (A : Amb Z X W N sc (fun _ => true) k) (hT : E.T = Z.T) {nsc : Scope} {fr : List Str} {mk : Addr → NF} {it ic : Nat} {js : List Nat} {ds : List PV} {w : Addr → List PV → Fn} {wn tn cn : Str} {p1 p2 p3 p4 : Pos}
    (hmk : ∀ c', (mk c').cl = cloFrom X.env.cells nsc.names [] ∧ (mk c').scope = nsc) (hnf : ∀ y ∈ nsc.names, y.2 = .free → y.1 ∈ fr) (hB : ndefB sc nsc fr = true) (hjs : js.map (fun j => N[j]?) = fr.map some) (hfc : ∀ y ∈ fr, sc.names.lookup y = some .cell)
    (hW : ∀ C : Clo, (∃ c', C.F = mk c') → C.caps.length = fr.length → KnownP Z (fun G H => CloAt Z.K fr G H C) k wn ds (w C.d C.caps))
    (hNt : N[it]? = some tn) (hNc : N[ic]? = some cn) (hvt : visB sc tn = true) (hvc : visB sc cn = true) (hg : sc.names.lookup wn = some .globalImplicit) {fW : Addr} (hmW : Z.mg wn = some (.ref fW)) (hkW : PySem.W.keepIn Z.K (.ref fW) = true)
    (hdb : (wn == ("__debug__" : Str)) = false := by decide) (hd1 : (tn == ("__debug__" : Str)) = false := by decide) (hd2 : (tn == ("__classdict__" : Str)) = false := by decide) (hd3 : (cn == ("__debug__" : Str)) = false := by decide) (hd4 : (cn == ("__classdict__" : Str)) = false := by decide)
    (he1 : starEach [.Name tn p2, .Name cn p3] X.env = (false, eval (.Name tn p2) X.env) :: starEach [.Name cn p3] X.env := by rfl) (he2 : starEach [.Name cn p3] X.env = (false, eval (.Name cn p3) X.env) :: starEach [] X.env := by rfl)
    (hpl : (backTo p4 (starEach [.Name cn p3] X.env)).any (fun z => z.1) = false := by rfl) : PE X (.Call (.Name wn p1) [.Name tn p2, .Name cn p3] [] p4) (tMake X E mk it ic js ds w) := by
  obtain ⟨s1, s2, s3, s4, s5⟩ := A.same
  refine ⟨fun pins s σ H Q I h => ?_⟩
  obtain ⟨f, c', G, M, pt, caps, R, ht, hc, hcaps, hf, hcode, sepf, sepk, q⟩ := h
  obtain ⟨ut, hst, rt⟩ := R.slot it pt (slotAt_some ht)
  obtain ⟨uc, hsc, rc⟩ := R.slot ic _ (slotAt_some hc)
  have rc' := rc
  simp only [RepV] at rc'
  subst rc'
  obtain ⟨us, hus, rcaps⟩ := caps_rep R hcaps
  have clen : caps.length = fr.length := by
    have h1 := congrArg List.length hus
    have h2 := congrArg List.length hjs
    have h3 := rcaps.length
    simp only [List.length_map] at h1 h2
    omega
  have fnT : ∀ y, X.fn y = true := fun y => by rw [A.fn]
  -- the call
  have go : ∀ (sh : Shared) (vus : List Value), Inv X pins σ H sh → Vals [ut, .ref f] vus → wpAny (model X.prog X.w) X.A (call (.ref fW) vus) (EP X pins σ Q) X.xe sh := fun sh vus J rv => by
    have hfree : ∀ y ∈ nsc.names, y.2 = .free → X.env.scope.names.lookup y.1 = some .cell ∨ X.env.scope.names.lookup y.1 = some .free := by rw [A.hs]; exact ndef_free hB
    have cap := Caps.made (X := X) J.ok hfree (ndef_fr hB) (js := js) (by rw [A.hN]; exact hjs)
    have CA := cells_of J cap
    rw [hus] at CA
    obtain ⟨cl, ecl⟩ : ∃ cl, cl = cloFrom X.env.cells nsc.names [] := ⟨_, rfl⟩
    rw [← ecl] at CA cap
    have clfr : ∀ y c, cl.lookup y = some c → y ∈ fr := fun y c l => by
      rw [ecl] at l
      rcases cloFrom_mem (PySem.mem_of_lookup l) with z | ⟨z, _⟩
      · cases z
      · exact hnf _ z rfl
    obtain ⟨cs, ecs⟩ : ∃ cs, cs = cellsOfC cl fr sh.heap := ⟨_, rfl⟩
    have obj : ∀ y c, cl.lookup y = some c → ∃ o v, sh.heap.get? c = some o ∧ o.data = .cell v ∧ H c = none ∧ (y ∈ fr → cs.lookup c = some o) := fun y c l => by
      obtain ⟨n, v, o, h1, h2⟩ := CA.all y c l
      refine ⟨o, v, h1, h2, n, fun hy => ?_⟩
      have := cells_in (h := sh.heap) hy l
      rw [h1] at this
      rw [ecs]; exact this
    have cell : ∀ c o, cs.lookup c = some o → ∃ y v, y ∈ fr ∧ cl.lookup y = some c ∧ sh.heap.get? c = some o ∧ o.data = .cell v ∧ H c = none := fun c o l => by
      rw [ecs] at l
      obtain ⟨y, hy, ly, eo⟩ := cells_some l
      obtain ⟨o', v, h1, h2, h3, _⟩ := obj y c ly
      rw [h1] at eo
      have eo : o = o' := eo
      subst eo
      exact ⟨y, v, hy, ly, h1, h2, h3⟩
    have nn : ∀ c o, cs.lookup c = some o → H c = none := fun c o l => by obtain ⟨_, _, _, _, _, _, n⟩ := cell c o l; exact n
    have big : ∀ c o, cs.lookup c = some o → X.s_0.heap.objs.size ≤ c := fun c o l => by
      obtain ⟨y, _, _, ly, _⟩ := cell c o l
      exact J.ok.cab y c (fnT y) (cap.sub y c ly)
    have ff : ∀ c o, cs.lookup c = some o → c ∉ frs X.stack := fun c o l z => by
      rcases List.mem_cons.mp (J.stkSub c z) with e | hb
      · obtain ⟨y, _, _, ly, _⟩ := cell c o l
        exact J.cne y c (cap.sub y c ly) e
      · obtain ⟨_, o', ho, _⟩ := J.ok.funs.mem hb
        exact absurd (Nat.lt_of_lt_of_le (Heap.lt_size ho) (big c o l)) (Nat.lt_irrefl _)
    have out : ∀ {a u}, H a = some u → cs.lookup a = none := fun {a u} e => by
      cases l : cs.lookup a with
      | none => rfl
      | some o => rw [nn a o l] at e; cases e
    obtain ⟨hp1, sep⟩ := hprep_wc R.hp nn
    have x := ext_wc (H := H) (G := G) (cs := cs) fun c o l => (sep c o l).2
    have C0 : CloAt X.K fr G (wc H cs) ⟨f, mk c', cs, us, caps⟩ :=
      { fn := by show wc H cs f = _; rw [wc_out (out hf)]; exact hf
        code := by show wc H cs (mk c').c = _; rw [wc_out (out hcode)]; exact hcode
        tell := Tells.wc H cs
        sepc := sep
        sepd := sepf
        sepk := sepk
        nd := out hf
        nc := out hcode
        caps := RepVs.mono x _ _ rcaps
        wlen := by have := rcaps.length; show us.length = _; omega
        cell := fun c o l => by obtain ⟨_, v, _, _, _, h2, _⟩ := cell c o l; exact ⟨v, h2⟩
        cin := fun y c l => by
          have l : cl.lookup y = some c := by rw [ecl, ← (hmk c').1]; exact l
          obtain ⟨o, _, _, _, _, z⟩ := obj y c l
          exact ⟨o, z (clfr y c l)⟩
        inj := fun a b c l1 l2 => by
          have l1 : cl.lookup a = some c := by rw [ecl, ← (hmk c').1]; exact l1
          have l2 : cl.lookup b = some c := by rw [ecl, ← (hmk c').1]; exact l2
          exact CA.inj a b c l1 l2
        has := fun i y e => by
          obtain ⟨c, l, hv⟩ := CA.has i y e
          obtain ⟨o, v, h1, h2, _, z⟩ := obj y c l
          have hy := z (clfr y c l)
          have hi : i < us.length := by
            have := (List.getElem?_eq_some_iff.mp e).1
            have h3 := rcaps.length
            omega
          obtain ⟨u, ru, o', h3, h4⟩ := hv us[i] (by rw [List.getElem?_map, List.getElem?_eq_getElem hi]; rfl)
          rw [h1] at h3; cases h3
          exact ⟨c, o, u, us[i], by rw [(hmk c').1, ← ecl]; exact l, hy, h4, List.getElem?_eq_getElem hi, ru⟩ }
    obtain ⟨fW', fd, ps, dvs, dus, FN, hm', hk', hb, hd, hr⟩ := (hW ⟨f, mk c', cs, us, caps⟩ ⟨c', rfl⟩ clen).ok
    have eW : fW' = fW := by rw [hmW] at hm'; cases hm'; rfl
    subst eW
    rw [← s3] at hb hr
    rw [← s1, ← s2, ← s4, ← s5] at FN
    have tb1 : TabsOk Z.T G (wc H cs) := fun p hp => by
      obtain ⟨ps, h1, h2, h3, h4, h5⟩ := (hT ▸ R.post.tabs E.ok : TabsOk Z.T G H) p hp
      refine ⟨ps, by rw [wc_out (out h1)]; exact h1, h2, h3, h4, fun pos cv e => ?_⟩
      obtain ⟨c, e1, e2, e3, e4⟩ := h5 pos cv e
      exact ⟨c, e1, by rw [wc_out (out e2)]; exact e2, e3, e4⟩
    have sp : spP (fun G H => CloAt Z.K fr G H ⟨f, mk c', cs, us, caps⟩) Z.T Z.K X.mg (w f caps) ([ut, .ref f] ++ dvs) (wc H cs) (fun v H' => (∃ hh, HOk X.prog X.w H' hh) → Tells H' cs ∧ Q v (wo H' cs)) (fun _ _ _ => False) := by
      rw [← s3]
      refine ⟨G, M.h, [pt, .con f] ++ ds, hp1, tb1, (RepVs.cons (RepV.mono x _ _ rt) (RepVs.cons (RepV.mono x _ _ rc) RepVs.nil)).append (hr _ _), C0, ?_⟩
      cases hφ : w f caps ([pt, .con f] ++ ds) M.h with
      | bad => rw [hφ] at q; exact q
      | exn c h' => rw [hφ] at q; exact q.elim
      | ok ev h' =>
        rw [hφ] at q
        rintro G' Hq u p2 r2 ru ⟨hh, okq⟩
        obtain ⟨p3, r3, t3, sep3⟩ := post_wo nn sep p2 r2 okq fun c o l => by obtain ⟨_, v, _, _, _, h2, _⟩ := cell c o l; exact ⟨v, h2⟩
        obtain ⟨R3, V3⟩ := R.called (hT ▸ p3) r3
        have x3 := ext_wo (H := Hq) (G := G') (cs := cs) fun c o l => (sep3 c o l).2
        refine ⟨t3, ?_⟩
        cases ev with
        | v pv => exact q G' _ u R3 (RepV.mono x3 _ _ ru)
        | sl j => exact q.elim
        | fr o =>
          obtain ⟨a, w2, rfl, h1, ro, hn, nf', nl⟩ := ru
          have na : cs.lookup a = none := by
            cases l : cs.lookup a with
            | none => rfl
            | some o2 => rw [wc_at l] at hn; cases hn
          rw [wc_out na] at hn
          have noo : ¬ OwnAt M.r σ a := fun ⟨j, o2, e1, e2⟩ => by
            obtain ⟨b, w3, z1, z2, _⟩ := R.own j o2 e1
            rw [e2] at z1; cases z1
            rw [hn] at z2; cases z2
          exact q G' _ _ R3 ⟨a, w2, rfl, by rw [wo_out na]; exact h1, ro.mono x3, R.post.dom a hn, nf', nl, noo, R.post.dom a hn⟩
    have e0 : Env0 X.prog X.w Z.K X.mg X.base X.A X.stack sh (wc H cs) := by
      have e := J.env0
      rw [s3] at e
      refine ⟨e.frames, e.mod, fun b o z => ⟨(e.bs b o z).1, ?_⟩, e.bsz, e.funs, fun b hb => ?_, hok_wc e.hok fun c o l => ?_, e.bare⟩
      · cases l : cs.lookup b with
        | none => rw [wc_out l]; exact (e.bs b o z).2
        | some o2 => exact absurd (Nat.lt_of_lt_of_le (Heap.lt_size z) (Nat.le_trans J.ok.bsz (big b o2 l))) (Nat.lt_irrefl _)
      · cases l : cs.lookup b with
        | none => rw [wc_out l]; exact e.frf b hb
        | some o2 => exact absurd hb (ff b o2 l)
      · obtain ⟨_, _, _, _, h1, _, h2⟩ := cell c o l; exact ⟨h1, h2⟩
    have r2 := rv.append hd
    have hl : (vus ++ dus).length = ps.length := r2.length.symm.trans (FN.len _ _ _ _ sp)
    refine wpAny_call (codeAny_mono (FN.run X.A X.stack sh (wc H cs) ⟨vus, []⟩ (vus ++ dus) _ _ _ A.room e0 (hb sh vus J.kIn hl) r2 sp) fun z s' hq => ?_)
    cases z with
    | error e => exact (CX_no hq).elim
    | ok fl =>
      cases fl with
      | ret u =>
        obtain ⟨v, H', os, bare, un, hok, r, q'⟩ := hq
        exact J.after (CE.drop (cs := cs) (fun c o l => by obtain ⟨_, _, _, _, h1, _, h2⟩ := cell c o l; exact ⟨h1, h2⟩) ff ⟨v, H', os, bare, un, hok, r, q' ⟨_, hok⟩⟩)
      | next => exact False.elim hq
      | brk => exact False.elim hq
      | cont => exact False.elim hq
  refine wpAny_Call_Name_kw (ld_glob I (A.gl hg) (by rw [s4]; exact hmW) ?_ hdb)
  refine PySem.W.callWith_K (h₀ := X.base) I.ok.mod.kin (by rw [s3]; exact hkW) (thn ((pa_cons (pe_var (pos := p2) (by rw [A.hN]; exact hNt) (by rw [A.hs]; exact vis_of hvt) hd1 hd2) (pa_cons (pe_var (pos := p3) (by rw [A.hN]; exact hNc) (by rw [A.hs]; exact vis_of hvc) hd3 hd4) pa_nil he2) he1).run p4 pins s σ H (fun vs H1 => vs = [ut, .ref f] ∧ H1 = H) I ⟨ut, hst, .ref f, hsc, rfl, rfl⟩) fun vus sh ⟨vs, H1, I1, r, e1, e2⟩ => ?_) he1 hpl
  subst e1 e2
  exact ⟨I1.kIn, go sh vus I1 r⟩
end
end HF

end
section
set_option Elab.async false
set_option linter.all false
set_option maxRecDepth 20000
set_option autoImplicit false
/-! HF22: the maker's two statements; its def. -/
namespace HF
open PySem PySem.Spec PyProof.Rows L2 NdefX LamX
section
variable {X : Cx} {E : Ent} {W : WX} {N : List Str} {sc : Scope} {fs : Str → Bool} {k : Nat} {Z : Wd}
theorem capsOf_set {js : List Nat} {M : Mem} {i : Nat} {x : Option LV} (h : i ∉ js) : capsOf js ⟨M.r.set i x, M.h⟩ = capsOf js M := by
  induction js with
  | nil => rfl
  | cons j js ih =>
    simp only [List.mem_cons, not_or] at h
    have e : HF.slotAt ⟨M.r.set i x, M.h⟩ j = HF.slotAt M j := by
      show (match (M.r.set i x)[j]? with | some (some x) => some x | _ => none) = _
      rw [List.getElem?_set_ne h.1]; rfl
    unfold capsOf
    rw [e, ih h.2]
theorem fss_make (A : Amb Z X W N sc (fun _ => true) k) (hT : E.T = Z.T) {st : Stmt} {cn wn tn q : Str} {cpos p1 p2 p3 p4 p5 : Pos} {fr : List Str} {it ic : Nat} {js : List Nat} {ds : List PV} {w : Addr → List PV → Fn} {c P fW : Addr}
    (hst : st = .FunctionDef cn (C8.fnArgs st) (C8.fnBody st) [] none [] (C8.fnScope st) none cn cpos) (TB : TabB X.base X.mg c P) (hcode : X.env.code = .ref c) (hm : (P, fun _ _ => q) ∈ Z.T) (hn : q = X.env.qual ++ cn) (hu : ∀ p ∈ Z.T, p.1 = P → p.2 = fun _ _ => q)
    (hd0 : (C8.fnArgs st).defaults = []) (hk0 : (C8.fnArgs st).kw_defaults = []) (hann : annTrees (C8.fnArgs st) none X.env = [])
    (hnf : ∀ y ∈ (C8.fnScope st).names, y.2 = .free → y.1 ∈ fr) (hB : ndefB sc (C8.fnScope st) fr = true) (hjs : js.map (fun j => N[j]?) = fr.map some) (hfc : ∀ y ∈ fr, sc.names.lookup y = some .cell)
    (hW : ∀ C : Clo, (∃ c', C.F = NF.of st cn q C.F.cl c') → C.caps.length = fr.length → KnownP Z (fun G H => CloAt Z.K fr G H C) k wn ds (w C.d C.caps))
    (hNt : N[it]? = some tn) (hNc : N[ic]? = some cn) (hne : it ≠ ic) (hnj : ic ∉ js) (hvt : visB sc tn = true) (hlc : locB sc (fun _ => true) cn = true) (hvc : visB sc cn = true) (hg : sc.names.lookup wn = some .globalImplicit) (hmW : Z.mg wn = some (.ref fW)) (hkW : PySem.W.keepIn Z.K (.ref fW) = true)
    (hdb : (wn == ("__debug__" : Str)) = false := by decide) (hd1 : (tn == ("__debug__" : Str)) = false := by decide) (hd2 : (tn == ("__classdict__" : Str)) = false := by decide) (hd3 : (cn == ("__debug__" : Str)) = false := by decide) (hd4 : (cn == ("__classdict__" : Str)) = false := by decide)
    (he1 : starEach [.Name tn p2, .Name cn p3] X.env = (false, eval (.Name tn p2) X.env) :: starEach [.Name cn p3] X.env := by rfl) (he2 : starEach [.Name cn p3] X.env = (false, eval (.Name cn p3) X.env) :: starEach [] X.env := by rfl)
    (hpl : (backTo p4 (starEach [.Name cn p3] X.env)).any (fun z => z.1) = false := by rfl) :
    FSs X E W [st, .Return (some (.Call (.Name wn p1) [.Name tn p2, .Name cn p3] [] p4)) p5] (sIndep (sMake it ic js ds w)) := by
  have hmk : ∀ c', (NF.of st cn (X.env.qual ++ cn) (cloFrom X.env.cells (C8.fnScope st).names []) c').cl = cloFrom X.env.cells (C8.fnScope st).names [] ∧ (NF.of st cn (X.env.qual ++ cn) (cloFrom X.env.cells (C8.fnScope st).names []) c').scope = C8.fnScope st := fun c' => ⟨rfl, rfl⟩
  have pe := pe_make (E := E) A hT (mk := NF.of st cn (X.env.qual ++ cn) (cloFrom X.env.cells (C8.fnScope st).names [])) (it := it) (ic := ic) (js := js) (ds := ds) (w := w) (p1 := p1) (p4 := p4) hmk hnf hB hjs hfc (fun C ⟨c', e⟩ l => hW C ⟨c', by rw [e, hn]; rfl⟩ l) hNt hNc hvt hvc hg hmW hkW hdb hd1 hd2 hd3 hd4 he1 he2 hpl
  have ps1 := ps_ndefMS (X := X) (T := Z.T) (nm := fun _ _ => q) (i := ic) hst TB hcode hm hn hu (by rw [A.hs]; exact ndef_free hB) hd0 hk0 hann (by rw [A.hN]; exact A.nd) (by rw [A.hN]; exact hNc) (by rw [A.hs]; exact locB_loc hlc) (locB_fn A hlc)
  refine ⟨PSs.weak (pss_cons ps1 (pss_one (ps_ret (pos := p5) pe))) ?_⟩
  rintro D s H ⟨G, M, R, h⟩
  refine ⟨(hT ▸ R.post.tabs E.ok : TabsOk Z.T G H).tabsN, fun f c' H1 x dm tb hf0 hf hc => ?_⟩
  obtain ⟨R1, V1, sep⟩ := R.grown x dm (hT ▸ tb)
  have R2 := R1.setV (p := .con f) (u := .ref f) ic (by simp only [RepV])
  rcases sIndep_or (sMake it ic js ds w) M with e | e
  · rw [e] at h; exact h.elim
  · have e := e f
    rw [← e] at h
    unfold sMake at h
    cases e1 : HF.slotAt M it with
    | none => rw [e1] at h; exact h.elim
    | some lv =>
      cases lv with
      | own o => rw [e1] at h; exact h.elim
      | v pt =>
        cases e2 : capsOf js M with
        | none => rw [e1, e2] at h; exact h.elim
        | some caps =>
          rw [e1, e2] at h
          simp only at h
          by_cases lic : ic < M.r.length
          · rw [if_pos lic] at h
            have s1 : HF.slotAt ⟨M.r.set ic (some (.v (.con f))), M.h⟩ it = some (.v pt) := by
              rw [← e1]
              show (match (M.r.set ic _)[it]? with | some (some x) => some x | _ => none) = _
              rw [List.getElem?_set_ne (fun z => hne z.symm)]; rfl
            have s2 : HF.slotAt ⟨M.r.set ic (some (.v (.con f))), M.h⟩ ic = some (.v (.con f)) := by
              show (match (M.r.set ic _)[ic]? with | some (some x) => some x | _ => none) = _
              rw [List.getElem?_set_self lic]
            refine ⟨f, c', G, _, pt, caps, R2, s1, s2, by rw [capsOf_set hnj]; exact e2, hf, hc, sep f _ hf, sep _ _ hc, ?_⟩
            have less : ∀ {G' : Gh} {h' : List PO} {H' : Hp}, StRep X.K E G' ⟨M.r.set ic (some (.v (.con f))), h'⟩ (s.set ic (some (.ref f))) H' → StRep X.K E G' ⟨M.r.set ic none, h'⟩ (s.set ic (some (.ref f))) H' := fun R' => R'.slots (r' := M.r.set ic none) (by simp) fun i x e => by
              by_cases z : ic = i
              · subst z; rw [List.getElem?_set_self lic] at e; cases e
              · rw [List.getElem?_set_ne z] at e
                exact .inl (by show (M.r.set ic _)[i]? = _; rw [List.getElem?_set_ne z]; exact e)
            cases hφ : w f caps ([pt, .con f] ++ ds) M.h with
            | bad => rw [hφ] at h; exact h
            | exn c h' => rw [hφ] at h; exact h
            | ok ev h' =>
              rw [hφ] at h
              cases ev with
              | sl j => exact h
              | v p => exact fun G' H' u R' ru => h G' _ H' u (less R') ru
              | fr o =>
                intro G' H' u R' ru
                obtain ⟨a, w2, rfl, h1, ro, hn, nf, nl, no, hz⟩ := ru
                refine h G' _ H' _ (less R') ⟨a, w2, rfl, h1, ro, hn, nf, nl, fun ⟨i, o2, e1, e2⟩ => no ⟨i, o2, ?_, e2⟩, hz⟩
                by_cases z : ic = i
                · subst z
                  have e1 : (M.r.set ic none)[ic]? = some (some (.own o2)) := e1
                  rw [List.getElem?_set_self lic] at e1; cases e1
                · have e1 : (M.r.set ic none)[i]? = some (some (.own o2)) := e1
                  rw [List.getElem?_set_ne z] at e1
                  show (M.r.set ic _)[i]? = _
                  rw [List.getElem?_set_ne z]; exact e1
          · rw [if_neg lic] at h; exact h.elim
end
end HF

end
section
set_option Elab.async false
set_option linter.all false
set_option maxRecDepth 20000
set_option autoImplicit false
/-! HF23: defs with defaults, makers, as the top has left them. -/
namespace HF
open PySem PySem.Spec PyProof.Rows L2 NdefX LamX
/-- a def with defaults (dvs) -/
structure DefAtD (Z : Wd) (x : Str) (st : Stmt) (ps : List Str) (dvs : List V) : Prop where
  ok : ∃ f fd, FunD Z.K x x (defArgs st) (defBody st) (defScope st) dvs [] f fd ∧ Z.mg x = some (.ref f) ∧ Binds Z.K fd ps [] ∧ ∃ ds, Vals dvs ds ∧ Binds Z.K fd ps ds
/-- a def that makes a closure, whose name behind it is q; dvs: its defaults (or none) -/
structure DefAtM (Z : Wd) (x : Str) (st : Stmt) (ps : List Str) (dvs : List V) (q : Str) : Prop where
  ok : ∃ (f c P : Addr) (oc dV kV doc pm ct : Value) (od an : Option Addr) (osl : Array (Option Value)), Z.K.lookup f = some ⟨oc, od, .func (PySem.W.fnOf x x (defArgs st) (defBody st) (defScope st) dV kV doc pm an (.ref c) ct), osl⟩ ∧
    PySem.W.codeIn Z.K (.ref c) x = true ∧ PySem.W.keepIn Z.K (.ref f) = true ∧ Z.mg x = some (.ref f) ∧ TabB Z.base Z.mg c P ∧ (P, fun _ _ => q) ∈ Z.T ∧ (∀ p ∈ Z.T, p.1 = P → p.2 = fun _ _ => q) ∧
    Binds Z.K (PySem.W.fnOf x x (defArgs st) (defBody st) (defScope st) dV kV doc pm an (.ref c) ct) ps [] ∧ ∃ ds, Vals dvs ds ∧ Binds Z.K (PySem.W.fnOf x x (defArgs st) (defBody st) (defScope st) dV kV doc pm an (.ref c) ct) ps ds
section
variable {N : List Str} {sc : Scope} {k : Nat} {Z : Wd}
/-- the module's address of a def -/
theorem DefAtD.addr {x : Str} {st : Stmt} {ps : List Str} {dvs : List V} (h : DefAtD Z x st ps dvs) : ∃ f : Addr, Z.mg x = some (.ref f) ∧ PySem.W.keepIn Z.K (.ref f) = true := by
  obtain ⟨f, fd, F, m, _⟩ := h.ok
  exact ⟨f, m, F.kp⟩
theorem DefAtD.knownP {I : Gh → Hp → Prop} {x : Str} {st : Stmt} {ps : List Str} {dvs : List V} {φ : Fn} (h : DefAtD Z x st ps dvs)
    (d : ∀ f fd, FunD Z.K x x (defArgs st) (defBody st) (defScope st) dvs [] f fd → FnOk Z.P Z.w Z.K Z.mg Z.base (L2.CX Z.P Z.w) k f fd ps (spP I Z.T Z.K Z.mg φ)) : KnownP Z I k x [] φ := by
  obtain ⟨f, fd, F, m, b, _⟩ := h.ok
  exact ⟨f, fd, ps, [], [], d f fd F, m, F.kp, b, .nil, fun _ _ => RepVs.nil⟩
theorem DefAtD.knownPd {I : Gh → Hp → Prop} {x : Str} {st : Stmt} {ps : List Str} {dvs : List V} {ds : List PV} {φ : Fn} (h : DefAtD Z x st ps dvs) (hr : ∀ G H, RepVs Z.K G H ds dvs)
    (d : ∀ f fd, FunD Z.K x x (defArgs st) (defBody st) (defScope st) dvs [] f fd → FnOk Z.P Z.w Z.K Z.mg Z.base (L2.CX Z.P Z.w) k f fd ps (spP I Z.T Z.K Z.mg φ)) : KnownP Z I k x ds φ := by
  obtain ⟨f, fd, F, m, _, us, r, b⟩ := h.ok
  exact ⟨f, fd, ps, dvs, us, d f fd F, m, F.kp, b, r, hr⟩
theorem KnownP.known {x : Str} {ds : List PV} {φ : Fn} (h : KnownP Z (fun _ _ => True) k x ds φ) : Known Z k x ds φ := by
  obtain ⟨f, fd, ps, dvs, dus, F, r⟩ := h.ok
  exact ⟨f, fd, ps, dvs, dus, F.imp fun vs H Q Ex ⟨G, h, p, h1, h2, h3, h4⟩ => ⟨G, h, p, h1, h2, h3, True.intro, h4⟩, r⟩
theorem spP_none {I : Gh → Hp → Prop} {T : List NTab} {K : PySem.W.Frag} {mg : Str → Option Value} {P : Program} {w : World} {base : Heap} {f : Addr} {fd : FuncData} {ps : List Str} : FnOk P w K mg base (L2.CX P w) k f fd ps (spP I T K mg (fun _ _ => .bad)) :=
  ⟨fun vs H Q Ex ⟨G, hh, p, _, _, _, _, z⟩ => z.elim, fun A outer s H args us vs Q Ex _ _ _ _ ⟨G, hh, p, _, _, _, _, z⟩ => z.elim⟩
/-- a maker's run -/
theorem defM_ok {x : Str} {st : Stmt} {ps : List Str} {f c : Addr} {oc dV kV doc pm ct : Value} {od an : Option Addr} {osl : Array (Option Value)} {fb : Ss} (lk : Z.K.lookup f = some ⟨oc, od, .func (PySem.W.fnOf x x (defArgs st) (defBody st) (defScope st) dV kV doc pm an (.ref c) ct), osl⟩)
    (hcd : PySem.W.codeIn Z.K (.ref c) x = true) (S : FnScope N ps (defScope st))
    (hb : ∀ X E W, Amb Z X W N (defScope st) (fun _ => true) k → E.T = Z.T → X.env.code = .ref c → X.env.qual = (envOfC x (defScope st) 0 f (.ref c)).qual → FSs X E W (defBody st) fb) :
    FnOk Z.P Z.w Z.K Z.mg Z.base (L2.CX Z.P Z.w) (k + 1) f (PySem.W.fnOf x x (defArgs st) (defBody st) (defScope st) dV kV doc pm an (.ref c) ct) ps (spOf Z.T Z.K Z.mg (runDef ps.length N.length fb)) := by
  refine fn_of lk hcd S (fun vs H Q Ex h => ?_) fun A outer s H vs Q Ex hr h => ?_
  · obtain ⟨G, h, ps', hp, tb, r, q⟩ := h
    by_cases hl : ps'.length = ps.length
    · rw [← r.length]; exact hl
    · unfold runDef at q
      rw [if_neg hl] at q
      exact q.elim
  · obtain ⟨G, h, ps', hp, tb, r, q⟩ := h
    have amb : Amb Z (cxOf (L2.CX Z.P Z.w) Z.P Z.w Z.K Z.mg Z.base N x (defScope st) f (.ref c) A outer s H Ex) (fun c d _ H' => Ex c d H') N (defScope st) (fun _ => true) k :=
      ⟨rfl, rfl, ⟨rfl, rfl, rfl, rfl, rfl⟩, rfl, S.nd, rfl, hr, takes_of rfl rfl rfl rfl, passes_of rfl⟩
    refine ⟨_, (hb _ ⟨G, H, Z.T, tb⟩ _ amb rfl rfl rfl).ps, ?_⟩
    by_cases hl : ps'.length = ps.length
    · refine ⟨G, ⟨ps'.map (fun p => some (LV.v p)) ++ List.replicate (N.length - ps.length) none, h⟩, start_rep hp r tb hl rfl, ?_⟩
      unfold runDef at q
      rw [if_pos hl] at q
      generalize fb ⟨ps'.map (fun p => some (LV.v p)) ++ List.replicate (N.length - ps.length) none, h⟩ = z at q
      cases z with
      | nx M => exact fun G' s' H' x R' => q G' H' _ R'.post R'.hp (show RepV Z.K G' H' .non .non by simp only [RepV])
      | ret e M =>
        intro G' s' H' u R' ru
        cases e with
        | v p => exact q G' H' u R'.post R'.hp ru
        | fr o =>
          obtain ⟨a, w, e, h1, ro, hn, nf, nl, no, _⟩ := ru
          exact q G' H' u R'.post R'.hp ⟨a, w, e, h1, ro, hn, nf, nl⟩
        | sl i => exact q.elim
      | exn c M => exact fun G' s' H' C _ R' m => q G' H' C R'.post R'.hp m
      | brk M => exact q.elim
      | cnt M => exact q.elim
      | bad => exact q.elim
    · unfold runDef at q
      rw [if_neg hl] at q
      exact q.elim
/-- it is known, by its body -/
theorem DefAtM.known {x : Str} {st : Stmt} {ps : List Str} {dvs : List V} {q : Str} {fb : Ss} (h : DefAtM Z x st ps dvs q) (S : FnScope N ps (defScope st))
    (hb : ∀ (c P : Addr), TabB Z.base Z.mg c P → (P, fun _ _ => q) ∈ Z.T → (∀ p ∈ Z.T, p.1 = P → p.2 = fun _ _ => q) → ∀ X E W f, Amb Z X W N (defScope st) (fun _ => true) k → E.T = Z.T → X.env.code = .ref c → X.env.qual = (envOfC x (defScope st) 0 f (.ref c)).qual → FSs X E W (defBody st) fb) :
    Known Z (k + 1) x [] (runDef ps.length N.length fb) ∧ ∀ ds : List PV, (∀ G H, RepVs Z.K G H ds dvs) → Known Z (k + 1) x ds (runDef ps.length N.length fb) := by
  obtain ⟨f, c, P, oc, dV, kV, doc, pm, ct, od, an, osl, lk, hcd, kp, m, tb, h1, h2, b0, us, r, b⟩ := h.ok
  have F := defM_ok (k := k) lk hcd S (fb := fb) fun X E W A hT e1 e2 => hb c P tb h1 h2 X E W f A hT e1 e2
  exact ⟨⟨f, _, ps, [], [], F, m, kp, b0, .nil, fun _ _ => RepVs.nil⟩, fun ds hr => ⟨f, _, ps, dvs, us, F, m, kp, b, r, hr⟩⟩
end
end HF

end
section
set_option Elab.async false
set_option linter.all false
set_option maxRecDepth 20000
set_option autoImplicit false
/-! HF24: defs with defaults and makers, from the facts of the top. -/
namespace HF
open PySem PySem.Spec PyProof.Rows L2 NdefX LamX
section
variable {P : Program} {w : World} {K : PySem.W.Frag} {mg : Str → Option Value} {base h : Heap} {T : List NTab} {x : Str} {st : Stmt} {ps : List Str} {f : Addr} {oc kV doc pm ct : Value} {od an : Option Addr} {osl : Array (Option Value)}
theorem funD_mk1 {td : Addr} {cdv toc : Value} {tod : Option Addr} {tsl : Array (Option Value)} {v : Int} {tk : Tok} {tn : Nat}
    (l : K.lookup f = some ⟨oc, od, .func (PySem.W.fnOf x x (defArgs st) (defBody st) (defScope st) (.ref td) kV doc pm an cdv ct), osl⟩) (lt : K.lookup td = some ⟨toc, tod, .seq #[.int v tk] tn, tsl⟩)
    (c : PySem.W.codeIn K cdv x = true) (k : PySem.W.keepIn K (.ref f) = true) : FunD K x x (defArgs st) (defBody st) (defScope st) [.int v] [] f (PySem.W.fnOf x x (defArgs st) (defBody st) (defScope st) (.ref td) kV doc pm an cdv ct) :=
  ⟨⟨oc, od, .ref td, kV, doc, pm, an, cdv, ct, osl, rfl, l, c, .inr ⟨by simp, td, _, [.int v tk], tn, rfl, lt, rfl, .cons ⟨tk, rfl⟩ .nil⟩, .inl rfl⟩, k⟩
theorem bindsBoth {cdv : Value} {td : Addr} {v : Int} (F : FunD K x x (defArgs st) (defBody st) (defScope st) [.int v] [] f (PySem.W.fnOf x x (defArgs st) (defBody st) (defScope st) (.ref td) kV doc pm an cdv ct))
    (n : Nat) (hn : n + 1 = ps.length)
    (h0 : ∀ (T : Addr) (kV doc pm : Value) (an : Option Addr) (cdv ct : Value) (us its : List Value), us.length = n + 1 → its.length = ([.int v] : List V).length → ∃ k, bindArgs (PySem.W.fnOf x x (defArgs st) (defBody st) (defScope st) (.ref T) kV doc pm an cdv ct) ⟨us, []⟩ = seqItems? (.ref T) >>= k ∧ k (some its.toArray) = pure (ps.zip (us ++ its.drop 1)))
    (h1 : ∀ (T : Addr) (kV doc pm : Value) (an : Option Addr) (cdv ct : Value) (us its : List Value), us.length = n → its.length = ([.int v] : List V).length → ∃ k, bindArgs (PySem.W.fnOf x x (defArgs st) (defBody st) (defScope st) (.ref T) kV doc pm an cdv ct) ⟨us, []⟩ = seqItems? (.ref T) >>= k ∧ k (some its.toArray) = pure (ps.zip (us ++ its.drop 0))) :
    Binds K (PySem.W.fnOf x x (defArgs st) (defBody st) (defScope st) (.ref td) kV doc pm an cdv ct) ps [] ∧ ∃ ds, Vals [.int v] ds ∧ Binds K (PySem.W.fnOf x x (defArgs st) (defBody st) (defScope st) (.ref td) kV doc pm an cdv ct) ps ds := by
  obtain ⟨d0, r0, b0⟩ := F.binds1 (ps := ps) (n + 1) 1 (by simp) (by simpa using hn) h0
  obtain ⟨d1, r1, b1⟩ := F.binds1 (ps := ps) n 0 (by simp) (by simpa using hn) h1
  cases r0
  exact ⟨b0, d1, r1, b1⟩
theorem defAtD_mk {td : Addr} {cdv toc : Value} {tod : Option Addr} {tsl : Array (Option Value)} {v : Int} {tk : Tok} {tn : Nat} (X : K.In h) (G : h.Ns mainGlobals mg) (a : PySem.W.nsIn K mainGlobals x = some (some (.ref f)))
    (l : K.lookup f = some ⟨oc, od, .func (PySem.W.fnOf x x (defArgs st) (defBody st) (defScope st) (.ref td) kV doc pm an cdv ct), osl⟩) (lt : K.lookup td = some ⟨toc, tod, .seq #[.int v tk] tn, tsl⟩)
    (c : PySem.W.codeIn K cdv x = true) (k : PySem.W.keepIn K (.ref f) = true) (n : Nat) (hn : n + 1 = ps.length)
    (h0 : ∀ (T : Addr) (kV doc pm : Value) (an : Option Addr) (cdv ct : Value) (us its : List Value), us.length = n + 1 → its.length = ([.int v] : List V).length → ∃ k, bindArgs (PySem.W.fnOf x x (defArgs st) (defBody st) (defScope st) (.ref T) kV doc pm an cdv ct) ⟨us, []⟩ = seqItems? (.ref T) >>= k ∧ k (some its.toArray) = pure (ps.zip (us ++ its.drop 1)))
    (h1 : ∀ (T : Addr) (kV doc pm : Value) (an : Option Addr) (cdv ct : Value) (us its : List Value), us.length = n → its.length = ([.int v] : List V).length → ∃ k, bindArgs (PySem.W.fnOf x x (defArgs st) (defBody st) (defScope st) (.ref T) kV doc pm an cdv ct) ⟨us, []⟩ = seqItems? (.ref T) >>= k ∧ k (some its.toArray) = pure (ps.zip (us ++ its.drop 0))) :
    DefAtD ⟨P, w, K, mg, base, T⟩ x st ps [.int v] := by
  have F := funD_mk1 (st := st) l lt c k
  obtain ⟨b0, b1⟩ := bindsBoth (ps := ps) F n hn h0 h1
  exact ⟨f, _, F, PySem.W.mg_of X G a, b0, b1⟩
/-- a maker with one default -/
theorem defAtM_mk1 {td c tp : Addr} {q : Str} {toc : Value} {tod : Option Addr} {tsl : Array (Option Value)} {v : Int} {tk : Tok} {tn : Nat} (X : K.In h) (G : h.Ns mainGlobals mg) (a : PySem.W.nsIn K mainGlobals x = some (some (.ref f)))
    (l : K.lookup f = some ⟨oc, od, .func (PySem.W.fnOf x x (defArgs st) (defBody st) (defScope st) (.ref td) kV doc pm an (.ref c) ct), osl⟩) (lt : K.lookup td = some ⟨toc, tod, .seq #[.int v tk] tn, tsl⟩)
    (cc : PySem.W.codeIn K (.ref c) x = true) (k : PySem.W.keepIn K (.ref f) = true) (tb : TabB base mg c tp) (hm : (tp, fun _ _ => q) ∈ T) (hu : ∀ p ∈ T, p.1 = tp → p.2 = fun _ _ => q) (n : Nat) (hn : n + 1 = ps.length)
    (h0 : ∀ (T : Addr) (kV doc pm : Value) (an : Option Addr) (cdv ct : Value) (us its : List Value), us.length = n + 1 → its.length = ([.int v] : List V).length → ∃ k, bindArgs (PySem.W.fnOf x x (defArgs st) (defBody st) (defScope st) (.ref T) kV doc pm an cdv ct) ⟨us, []⟩ = seqItems? (.ref T) >>= k ∧ k (some its.toArray) = pure (ps.zip (us ++ its.drop 1)))
    (h1 : ∀ (T : Addr) (kV doc pm : Value) (an : Option Addr) (cdv ct : Value) (us its : List Value), us.length = n → its.length = ([.int v] : List V).length → ∃ k, bindArgs (PySem.W.fnOf x x (defArgs st) (defBody st) (defScope st) (.ref T) kV doc pm an cdv ct) ⟨us, []⟩ = seqItems? (.ref T) >>= k ∧ k (some its.toArray) = pure (ps.zip (us ++ its.drop 0))) :
    DefAtM ⟨P, w, K, mg, base, T⟩ x st ps [.int v] q := by
  have F := funD_mk1 (st := st) l lt cc k
  obtain ⟨b0, b1⟩ := bindsBoth (ps := ps) F n hn h0 h1
  exact ⟨f, c, tp, oc, .ref td, kV, doc, pm, ct, od, an, osl, l, cc, k, PySem.W.mg_of X G a, tb, hm, hu, b0, b1⟩
/-- a maker without defaults -/
theorem defAtM_mk0 {c tp : Addr} {q : Str} (X : K.In h) (G : h.Ns mainGlobals mg) (a : PySem.W.nsIn K mainGlobals x = some (some (.ref f)))
    (l : K.lookup f = some ⟨oc, od, .func (PySem.W.fnOf x x (defArgs st) (defBody st) (defScope st) .none kV doc pm an (.ref c) ct), osl⟩)
    (cc : PySem.W.codeIn K (.ref c) x = true) (k : PySem.W.keepIn K (.ref f) = true) (tb : TabB base mg c tp) (hm : (tp, fun _ _ => q) ∈ T) (hu : ∀ p ∈ T, p.1 = tp → p.2 = fun _ _ => q)
    (hb : ∀ (kV doc pm : Value) (an : Option Addr) (cdv ct : Value) (us : List Value), us.length = ps.length → bindArgs (PySem.W.fnOf x x (defArgs st) (defBody st) (defScope st) .none kV doc pm an cdv ct) ⟨us, []⟩ = pure (ps.zip us)) : DefAtM ⟨P, w, K, mg, base, T⟩ x st ps [] q := by
  have F := fun_mk (st := st) l cc k
  exact ⟨f, c, tp, oc, .none, kV, doc, pm, ct, od, an, osl, l, cc, k, PySem.W.mg_of X G a, tb, hm, hu, F.binds hb, [], .nil, F.binds hb⟩
end
end HF

end
section
set_option Elab.async false
set_option linter.all false
set_option maxRecDepth 20000
set_option autoImplicit false
/-! HF25: int of a truth. -/
namespace HF
open PySem PySem.Spec PyProof.Rows L2
section
variable {X : Cx} {E : Ent} {W : WX} {N : List Str} {sc : Scope} {fs : Str → Bool} {k : Nat} {Z : Wd} {e : Expr} {f : Sm EV} {p pos : Pos}
@[simp] def opIntOf : Op1 := fun x M => match x with
  | .v (.int i) => some (.v (.int i))
  | .v (.bl b) => some (.v (.int (if b then 1 else 0)))
  | _ => none
theorem opIntOf_ok : Op1Ok X (fun u H Q => (∃ i, [u] = [V.int i] ∧ Q (.int i) H) ∨ ∃ k, [u] = [V.bl k] ∧ Q (.int (if k then 1 else 0)) H) opIntOf := by
  intro E s G M H H0 x u ev Q R d rx e q
  have fin : ∀ {n : Int}, ev = .v (.int n) → Q (.int n) H := fun {n} e => q G H _ (Evo.refl _ _ _ _) R (by subst e; exact repV_int)
  simp only [opIntOf] at e
  split at e
  · rename_i i
    cases e
    have : u = .int i := by simpa only [RepE, RepV] using rx
    exact .inl ⟨_, by rw [this], fin rfl⟩
  · rename_i i
    cases e
    have : u = .bl i := by simpa only [RepE, RepV] using rx
    exact .inr ⟨_, by rw [this], fin rfl⟩
  · cases e
theorem fe_intOf (A : Amb Z X W N sc fs k) (hm : Z.mg ("int" : Str) = none) (he : FE X E W e f) (hg : sc.names.lookup ("int" : Str) = some .globalImplicit := by rfl) (h1 : starEach [e] X.env = (false, eval e X.env) :: starEach [] X.env := by rfl) : FE X E W (.Call (.Name "int" p) [e] [] pos) (e1 opIntOf f) :=
  fe_t1 A call_int1 opIntOf_ok hm PyProof.Rows.boot_int he hg (by decide) (by decide) h1
end
end HF

end
section
set_option Elab.async false
set_option linter.all false
set_option maxRecDepth 20000
set_option autoImplicit false
/-! HF26: the module's texts and numbers; defs with defaults that are known. -/
namespace HF
open PySem PySem.Spec PyProof.Rows L2 NdefX LamX
section
variable {X : Cx} {E : Ent} {W : WX} {N : List Str} {sc : Scope} {fs : Str → Bool} {k : Nat} {Z : Wd} {pos : Pos}
theorem fe_gstrA (A : Amb Z X W N sc fs k) {x y : Str} (h : StrAt Z x y) (hg : sc.names.lookup x = some .globalImplicit := by rfl) (hd : (x == ("__debug__" : Str)) = false := by decide) : FE X E W (.Name x pos) (eC (.str y)) := by
  obtain ⟨t, ht⟩ := h.ok
  exact fe_gstr A (by rw [A.same.2.2.2.1]; exact ht) hg hd
theorem fe_gintA (A : Amb Z X W N sc fs k) {x : Str} {y : Int} (h : IntAt Z x y) (hg : sc.names.lookup x = some .globalImplicit := by rfl) (hd : (x == ("__debug__" : Str)) = false := by decide) : FE X E W (.Name x pos) (eC (.int y)) := by
  obtain ⟨t, ht⟩ := h.ok
  exact fe_gint A (by rw [A.same.2.2.2.1]; exact ht) hg hd
theorem DefAtD.known {x : Str} {st : Stmt} {ps : List Str} {dvs : List V} {φ : Fn} (h : DefAtD Z x st ps dvs)
    (d : ∀ f fd, FunD Z.K x x (defArgs st) (defBody st) (defScope st) dvs [] f fd → FnOk Z.P Z.w Z.K Z.mg Z.base (L2.CX Z.P Z.w) k f fd ps (spP (fun _ _ => True) Z.T Z.K Z.mg φ)) : Known Z k x [] φ := (h.knownP d).known
theorem repVs_int {K : PySem.W.Frag} {G : Gh} {H : Hp} {i : Int} : RepVs K G H [.int i] [.int i] := RepVs.cons (by simp only [RepV]) RepVs.nil
theorem repVs_non {K : PySem.W.Frag} {G : Gh} {H : Hp} : RepVs K G H [.non] [.non] := RepVs.cons (by simp only [RepV]) RepVs.nil
theorem DefAtD.known_d1 {x : Str} {st : Stmt} {ps : List Str} {i : Int} {φ : Fn} (h : DefAtD Z x st ps [.int i])
    (d : ∀ f fd, FunD Z.K x x (defArgs st) (defBody st) (defScope st) [.int i] [] f fd → FnOk Z.P Z.w Z.K Z.mg Z.base (L2.CX Z.P Z.w) k f fd ps (spP (fun _ _ => True) Z.T Z.K Z.mg φ)) : Known Z k x [.int i] φ := (h.knownPd (fun _ _ => repVs_int) d).known
theorem DefAtD.none {x : Str} {st : Stmt} {ps : List Str} {dvs : List V} (h : DefAtD Z x st ps dvs) : Known Z k x [] (fun _ _ => .bad) := h.known fun f fd _ => spP_none
theorem DefAtD.none_d1 {x : Str} {st : Stmt} {ps : List Str} {i : Int} (h : DefAtD Z x st ps [.int i]) : Known Z k x [.int i] (fun _ _ => .bad) := h.known_d1 fun f fd _ => spP_none
end
theorem strAt_mk {P : Program} {w : World} {K : PySem.W.Frag} {mg : Str → Option Value} {base h : Heap} {x y : Str} {t : Tok} {T : List NTab} (X : K.In h) (G : h.Ns mainGlobals mg) (a : PySem.W.nsIn K mainGlobals x = some (some (.str y t))) : StrAt ⟨P, w, K, mg, base, T⟩ x y := ⟨t, PySem.W.mg_of X G a⟩
theorem intAt_mk {P : Program} {w : World} {K : PySem.W.Frag} {mg : Str → Option Value} {base h : Heap} {x : Str} {y : Int} {t : Tok} {T : List NTab} (X : K.In h) (G : h.Ns mainGlobals mg) (a : PySem.W.nsIn K mainGlobals x = some (some (.int y t))) : IntAt ⟨P, w, K, mg, base, T⟩ x y := ⟨t, PySem.W.mg_of X G a⟩
end HF

end
section
set_option Elab.async false
set_option linter.all false
set_option maxRecDepth 20000
set_option autoImplicit false
/-! HF27: a comprehension's list to a name that is a cell (used within another comprehension). -/
namespace HF
open PySem PySem.Spec PyProof.Rows L2
theorem sw_cell {env : Env} {elt : Expr} {gens : List Comprehension} {sc2 : Scope} {pos py : Pos} {y : Str} {l : Nat} (hy : env.scope.names.lookup y = some .cell) : swapsWith (.ListComp elt gens sc2 pos) (some (.Name y py)) l env = pure false := by
  have ky : env.kindOf y = some .cell := hy
  unfold swapsWith
  simp only [ky]
  have : ((some NameKind.cell == some NameKind.local) : Bool) = false := by decide
  simp [this]
section
variable {X : Cx} {E : Ent} {W : WX} {N : List Str} {sc : Scope} {fs : Str → Bool} {k : Nat} {Z : Wd}
theorem fs_lcSetC (A : Amb Z X W N sc fs k) {elt tg iter : Expr} {ifs : List Expr} {scope : Scope} {pos : Pos} {f : Sm Src} {pt : Pat} {t : Sm Bool} {el : Sm PV} {i : Nat} {y : Str} {py spos : Pos} (own : List (Str × Nat)) (hy : N[i]? = some y) (hyl : sc.names.lookup y = some .cell) (hfs : fs y = true)
    (hi : FI X E W tg iter f) (hok : blkC N sc scope own = true) (hp : ∀ i ∈ pt.slots, i ∈ own.map (·.2))
    (hg : ∀ X', Amb Z X' W0 N (relS scope sc) (fun x => scope.names.lookup x == some .cell) k → FG X' tg pt)
    (ht : ∀ X', Amb Z X' W0 N (relS scope sc) (fun x => scope.names.lookup x == some .cell) k → FTs X' E W0 ifs t)
    (he : ∀ X', Amb Z X' W0 N (relS scope sc) (fun x => scope.names.lookup x == some .cell) k → FP X' E W0 elt el)
    (hs : ∀ x, foldedSetIterable iter X.env x = pure x := by intro _; rfl) : FS X E W (.Assign [.Name y py] (.ListComp elt [⟨tg, iter, ifs, 0⟩] scope pos) spos) (sSet i (toP (eLc f pt (own.map (·.2)) t el))) :=
  fs_set A hy (by unfold locB; rw [hyl]; exact hfs) (lc_rule A own hi hok hp hg ht he hs).toP (sw_cell (by rw [A.hs]; exact hyl))
end
end HF

end
section
set_option Elab.async false
set_option linter.all false
set_option maxRecDepth 20000
set_option autoImplicit false
/-! HF28: dicts walked: by keys, values, pairs. The dict is a value (it never changes any more), and stays locked. -/
namespace HF
open PySem PySem.Spec PyProof.Rows L2
/-- what the expression gives is a dict, and is locked from then on -/
def tLk (td : TE) : TE := fun σ H Q => td σ H fun x H1 => ∃ d u, x = .ref d ∧ H1 d = some u ∧ ((∃ o kvs, u = .frz o (.dK kvs)) ∧ Q x H1 ∨ Mut (some u) ∧ ∀ od, Q x (upd H1 d (.frz od u)))
theorem pe_lk {X : Cx} {e : Expr} {t : TE} (h : PE X e t) : PE X e (tLk t) := by
  refine ⟨fun pins s σ H Q I hw => ?_⟩
  refine thn (h.run pins s σ H _ I hw) fun v s1 ⟨x, H1, I1, r, d, u, ex, hd, q⟩ => ?_
  rcases q with ⟨_, q⟩ | ⟨mu, q⟩
  · exact ⟨x, H1, I1, r, q⟩
  · obtain ⟨od, I2⟩ := I1.lock hd mu
    exact ⟨x, _, I2, r, q od⟩
section
variable {K : PySem.W.Frag} {E : Ent} {G : Gh} {M : Mem} {s : L2.St} {H : Hp}
theorem StRep.locked (R : StRep K E G M s H) {a : Addr} {kvs : List (Key × V)} (f : G.F a) (h : H a = some (.dK kvs)) (od : Obj) :
    StRep K E G M s (L2.upd H a (.frz od (.dK kvs))) ∧ Evo s G M H G M (L2.upd H a (.frz od (.dK kvs))) := by
  have ex : Ext G H G (L2.upd H a (.frz od (.dK kvs))) := by
    refine ⟨fun _ h => h, fun b u f p r => ?_, fun _ _ h => h, fun b o u f r => ?_⟩
    · by_cases z : b = a
      · subst z
        rcases r with r | ⟨o, r⟩
        · rw [h] at r; cases r; exact .inr ⟨od, L2.upd_same⟩
        · rw [h] at r; cases r
      · exact Rd.upd_ne z r
    · by_cases z : b = a
      · subst z; rw [h] at r; cases r
      · rw [L2.upd_ne z]; exact r
  have ne : ∀ {b}, ¬ G.F b → b ≠ a := fun n z => n (by rw [z]; exact f)
  refine ⟨⟨⟨R.post.f, R.post.fnew, R.post.al, fun b u e n m nt => ?_, fun t => (R.post.tabs t).step fun b u e nn n m => ⟨?_, n, m⟩, fun b u f pl r => ex.rd b u (R.post.f b f) pl (R.post.rd b u f pl r), fun b e => ?_, fun b o u f r => ex.fz b o u (R.post.f b f) (R.post.fz b o u f r)⟩,
      ⟨fun b g => ?_, R.hp.nd, R.hp.len, fun r b o e e' => ?_⟩, R.len, fun i p e => ?_, fun i o e => ?_, R.sep⟩, ⟨ex, fun b u e n g ow nt => ⟨?_, n, g⟩, fun _ h => h, fun b e => ?_⟩⟩
  · rw [L2.upd_ne (ne (R.post.nof e m))]; exact R.post.keep b u e n m nt
  · rw [L2.upd_ne (ne m)]; exact e
  · by_cases z : b = a
    · subst z; rw [L2.upd_same] at e; cases e
    · rw [L2.upd_ne z] at e; exact R.post.dom b e
  · by_cases z : b = a
    · subst z; exact ⟨.frz od (.dK kvs), L2.upd_same, ⟨fun φ (z : HO.frz od (.dK kvs) = .ext φ) => (nomatch z), fun ps (z : HO.frz od (.dK kvs) = .tbl ps) => (nomatch z)⟩⟩
    · rw [L2.upd_ne z]; exact R.hp.fdom b g
  · obtain ⟨g, u, q, rr⟩ := R.hp.obj r b o e e'
    exact ⟨g, u, by rw [L2.upd_ne (ne g)]; exact q, rr.mono ex⟩
  · obtain ⟨u, h1, h2⟩ := R.slot i p e
    exact ⟨u, h1, RepV.mono ex _ _ h2⟩
  · obtain ⟨b, u, h1, h2, h3, h4, h5, h6⟩ := R.own i o e
    exact ⟨b, u, h1, by rw [L2.upd_ne (ne h5)]; exact h2, h3.mono ex, h4, h5, h6⟩
  · rw [L2.upd_ne (ne g)]; exact e
  · by_cases z : b = a
    · subst z; rw [L2.upd_same] at e; cases e
    · rwa [L2.upd_ne z] at e
end
@[simp] def keyPV : Key → PV
  | .inl i => .int i
  | .inr x => .str x
theorem keyPV_rep {K : PySem.W.Frag} {G : Gh} {H : Hp} (k : Key) : RepV K G H (keyPV k) (kV k) := by
  cases k <;> simp only [keyPV, RepV] <;> rfl
@[simp] def kvTup (k : Key) (p : PV) : PV := .tup [keyPV k, p]
@[simp] def srcKeys (f : Sm PV) : Sm Src := fun M => (f M).bnd fun p M1 => match p with
  | .dct ks _ => .ok (.v .non, ks.map keyPV) M1
  | _ => .bad
@[simp] def srcVals (f : Sm PV) : Sm Src := fun M => (f M).bnd fun p M1 => match p with
  | .dct _ xs => .ok (.v .non, xs) M1
  | _ => .bad
@[simp] def srcItems (f : Sm PV) : Sm Src := fun M => (f M).bnd fun p M1 => match p with
  | .dct ks xs => .ok (.v .non, List.zipWith kvTup ks xs) M1
  | _ => .bad
section
variable {X : Cx} {E : Ent} {W : WX} {N : List Str} {sc : Scope} {fs : Str → Bool} {k : Nat} {Z : Wd}
/-- a locked dict that is a value -/
theorem tP_lk {f : Sm PV} {s : L2.St} {H : Hp} {Q : V → Hp → Prop} {G : Gh} {M : Mem} {β : Type} {g : PV → Mem → Res β} {kk : Gh → Mem → Hp → β → Prop} (R : StRep X.K E G M s H) (h : OutP X E W s G M H ((f M).bnd g) kk)
    (i : ∀ G1 M1 H1 p, StRep X.K E G1 M1 s H1 → OutP X E W s G1 M1 H1 (g p M1) kk → ∃ ks xs, p = .dct ks xs ∧ ∀ d o kvs, StRep X.K E G1 M1 s H1 → OutP X E W s G1 M1 H1 (g p M1) kk → G1.F d → kvs.length ≤ sizeLine → kvs.map (·.1) = ks → RepVs X.K G1 H1 xs (kvs.map (·.2)) → H1 d = some (.frz o (.dK kvs)) → Q (.ref d) H1) :
    tLk (tP X E W f) s H Q := by
  refine tP_one R h fun G1 M1 H1 p u V1 R1 rp q => ?_
  obtain ⟨ks, xs, rfl, _⟩ := i G1 M1 H1 p R1 q
  have rp' : RepV X.K G1 H1 (.dct ks xs) u := rp
  simp only [RepV] at rp'
  obtain ⟨a, kvs, rfl, ⟨f1, f2⟩, z, e, rr⟩ := rp'
  rcases f2 with f2 | ⟨o, f2⟩
  · refine ⟨a, _, rfl, f2, .inr ⟨trivial, fun od => ?_⟩⟩
    obtain ⟨R2, V2⟩ := R1.locked f1 f2 od
    have q2 : OutP X E W s G1 M1 (upd H1 a (.frz od (.dK kvs))) (g (.dct ks xs) M1) kk := by
      unfold OutP at q ⊢
      split at q
      · exact fun G' H' V R => q G' H' (V2.trans V) R
      · exact fun G' H' C x R m => q G' H' C (V2.ext.trans x) R m
      · exact q
    obtain ⟨ks', xs', e', j⟩ := i G1 M1 _ (.dct ks xs) R2 q2
    cases e'
    exact j a od kvs R2 q2 f1 z e (RepVs.mono V2.ext _ _ rr) upd_same
  · refine ⟨a, _, rfl, f2, .inl ⟨⟨o, kvs, rfl⟩, ?_⟩⟩
    obtain ⟨ks', xs', e', j⟩ := i G1 M1 _ (.dct ks xs) R1 q
    cases e'
    exact j a o kvs R1 q f1 z e rr f2
section
variable {K : PySem.W.Frag} {s0 : L2.St} {G0 : Gh} {H0 : Hp} {d : Addr} {o : Obj} {kvs : List (Key × V)} {ks : List Key} {xs : List PV} {e : EV}
theorem wk_keys (f : G0.F d) (h : H0 d = some (.frz o (.dK kvs))) (z : kvs.length ≤ sizeLine) (ek : kvs.map (·.1) = ks) : Wk K E e (ks.map keyPV) s0 (Itk d o kvs) G0 H0 where
  go := fun i G M s H R x c sa lt => ⟨x.fz d o _ f h, by subst ek; simpa using lt⟩
  yld := fun i G M s H y H' p R x c sa e1 e2 => by
    obtain ⟨rfl, k, v, h1, rfl⟩ := e2
    subst ek
    simp only [List.getElem?_map, h1] at e1
    cases e1
    exact ⟨G, Evo.refl _ _ _ _, R, keyPV_rep k⟩
  stop := fun i G M s H R x c sa le => ⟨x.fz d o _ f h, by subst ek; simpa using le⟩
  sz := by subst ek; simpa using z
theorem wk_vals (f : G0.F d) (h : H0 d = some (.frz o (.dK kvs))) (z : kvs.length ≤ sizeLine) (rr : RepVs K G0 H0 xs (kvs.map (·.2))) : Wk K E e xs s0 (Itd d o kvs) G0 H0 where
  go := fun i G M s H R x c sa lt => ⟨x.fz d o _ f h, by have := rr.length; simp at this; omega⟩
  yld := fun i G M s H y H' p R x c sa e1 e2 => by
    obtain ⟨rfl, k, h1⟩ := e2
    obtain ⟨v, h2, h3⟩ := rr.get e1
    rw [List.getElem?_map, h1] at h2
    cases h2
    exact ⟨G, Evo.refl _ _ _ _, R, RepV.mono x _ _ h3⟩
  stop := fun i G M s H R x c sa le => ⟨x.fz d o _ f h, by have := rr.length; simp at this; omega⟩
  sz := by have := rr.length; simp at this; omega
theorem wk_items (f : G0.F d) (h : H0 d = some (.frz o (.dK kvs))) (z : kvs.length ≤ sizeLine) (ek : kvs.map (·.1) = ks) (rr : RepVs X.K G0 H0 xs (kvs.map (·.2))) : Wk X.K E e (List.zipWith kvTup ks xs) s0 (Iti d o kvs) G0 H0 := by
  have len : (List.zipWith kvTup ks xs).length = kvs.length := by
    have := rr.length
    subst ek
    simp at this ⊢; omega
  refine ⟨fun i G M s H R x c sa lt => ⟨x.fz d o _ f h, by rw [← len]; exact lt⟩, fun i G M s H y H' p R x c sa e1 e2 => ?_, fun i G M s H R x c sa le => ⟨x.fz d o _ f h, by rw [← len]; exact le⟩, by rw [len]; exact z⟩
  obtain ⟨T, k, v, h1, rfl, h2, rfl⟩ := e2
  subst ek
  simp only [List.getElem?_zipWith, List.getElem?_map, h1, Option.map_some] at e1
  cases e3 : xs[i]? with
  | none => rw [e3] at e1; cases e1
  | some q =>
    rw [e3] at e1
    cases e1
    obtain ⟨w, h3, h4⟩ := rr.get e3
    rw [List.getElem?_map, h1] at h3
    cases h3
    obtain ⟨V2, R2, r2⟩ := rep_newtup R (RepVs.cons (keyPV_rep k) (RepVs.cons (RepV.mono x _ _ h4) RepVs.nil)) (by show 2 ≤ sizeLine; decide) h2
    exact ⟨_, V2, R2, r2⟩
end
section
variable {e : Expr} {tg : Expr} {f : Sm PV} {apos cpos : Pos}
theorem fi_keys (he : FP X E W e f) : FI X E W tg e (srcKeys f) := by
  refine ⟨PI.weak (pi_keys (pe_lk he.pe)) ?_⟩
  rintro s H Q ⟨G, M, R, hh⟩
  refine tP_lk R hh fun G1 M1 H1 p R1 q => ?_
  cases p <;> first | exact False.elim q | skip
  rename_i ks xs
  exact ⟨ks, xs, rfl, fun d o kvs R1 q f z e rr h => ⟨d, o, rfl, .inl ⟨kvs, h, OutP.now q R1 _ (wk_keys f h z e)⟩⟩⟩
theorem fi_vals (he : FP X E W e f) (hbase : attributeBase e "values" X.env (eval e X.env) = eval e X.env := by rfl) (hline : (apos.endLine == cpos.line) = true := by rfl) : FI X E W tg (.Call (.Attribute e "values" apos) [] [] cpos) (srcVals f) := by
  refine ⟨PI.weak (pi_values (pe_lk he.pe) hbase hline) ?_⟩
  rintro s H Q ⟨G, M, R, hh⟩
  refine tP_lk R hh fun G1 M1 H1 p R1 q => ?_
  cases p <;> first | exact False.elim q | skip
  rename_i ks xs
  exact ⟨ks, xs, rfl, fun d o kvs R1 q f z e rr h => ⟨d, o, kvs, rfl, h, OutP.now q R1 _ (wk_vals f h z rr)⟩⟩
theorem fi_items {elts : List Expr} {kk : Nat} {tpos : Pos} (he : FP X E W e f) (hbase : attributeBase e "items" X.env (eval e X.env) = eval e X.env := by rfl) (hline : (apos.endLine == cpos.line) = true := by rfl) : FI X E W (.Tuple elts kk tpos) (.Call (.Attribute e "items" apos) [] [] cpos) (srcItems f) := by
  refine ⟨PI.weak (pi_items (pe_lk he.pe) hbase hline) ?_⟩
  rintro s H Q ⟨G, M, R, hh⟩
  refine tP_lk R hh fun G1 M1 H1 p R1 q => ?_
  cases p <;> first | exact False.elim q | skip
  rename_i ks xs
  exact ⟨ks, xs, rfl, fun d o kvs R1 q f z e rr h => ⟨d, o, kvs, rfl, h, OutP.now q R1 _ (wk_items f h z e rr)⟩⟩
end
theorem srcKeys_ns {f : Sm PV} : NoSlot (srcKeys f) := by
  refine ⟨fun M a M' h => ?_⟩
  simp only [srcKeys] at h
  cases hf : f M with
  | exn c M1 => rw [hf] at h; cases h
  | bad => rw [hf] at h; cases h
  | ok p M1 => rw [hf] at h; simp only [Res.bnd] at h; cases p <;> simp only at h <;> first | (cases h; rfl) | cases h
theorem srcVals_ns {f : Sm PV} : NoSlot (srcVals f) := by
  refine ⟨fun M a M' h => ?_⟩
  simp only [srcVals] at h
  cases hf : f M with
  | exn c M1 => rw [hf] at h; cases h
  | bad => rw [hf] at h; cases h
  | ok p M1 => rw [hf] at h; simp only [Res.bnd] at h; cases p <;> simp only at h <;> first | (cases h; rfl) | cases h
theorem srcItems_ns {f : Sm PV} : NoSlot (srcItems f) := by
  refine ⟨fun M a M' h => ?_⟩
  simp only [srcItems] at h
  cases hf : f M with
  | exn c M1 => rw [hf] at h; cases h
  | bad => rw [hf] at h; cases h
  | ok p M1 => rw [hf] at h; simp only [Res.bnd] at h; cases p <;> simp only at h <;> first | (cases h; rfl) | cases h
end
end HF

end
section
set_option Elab.async false
set_option linter.all false
set_option maxRecDepth 20000
set_option autoImplicit false
/-! HF29: get, setdefault, pop of a dict; dict(d). -/
namespace HF
open PySem PySem.Spec PyProof.Rows L2
@[simp] def eGet2 (f g : Sm EV) (h : Sm PV) : Sm EV := fun M => (f M).bnd fun x M1 => match asDct M1 x with
  | some _ => (g M1).bnd fun y M2 => (h M2).bnd fun z M3 => match asDct M3 x, keyOf y with
    | some (ks, xs), some k => .ok (.v ((dGet ks xs k).getD z)) M3
    | _, _ => .bad
  | none => .bad
@[simp] def eSetd (f g : Sm EV) (h : Sm PV) : Sm EV := fun M => (f M).bnd fun x M1 => match mutAt M1 x with
  | some (.dct _ _) => (g M1).bnd fun y M2 => (h M2).bnd fun z M3 => match mutAt M3 x with
    | some (.dct ks xs) => match keyOf y with
      | some k => if ks.length < sizeLine then (match dGet ks xs k with
        | some p => .ok (.v p) M3
        | none => .ok (.v z) (mutPut x (.dct (dStore ks xs k z).1 (dStore ks xs k z).2) M3)) else .bad
      | none => .bad
    | _ => .bad
  | _ => .bad
@[simp] def dDropV : List Key → List PV → Key → List PV
  | q :: ks, x :: xs, k => if q = k then dDropV ks xs k else x :: dDropV ks xs k
  | _, _, _ => []
@[simp] def dDropK (ks : List Key) (k : Key) : List Key := ks.filter fun q => decide (q ≠ k)
@[simp] def ePop2 (f g : Sm EV) (h : Sm PV) : Sm EV := fun M => (f M).bnd fun x M1 => match mutAt M1 x with
  | some (.dct _ _) => (g M1).bnd fun y M2 => (h M2).bnd fun z M3 => match mutAt M3 x with
    | some (.dct ks xs) => match keyOf y with
      | some k => (match dGet ks xs k with
        | some p => .ok (.v p) (mutPut x (.dct (dDropK ks k) (dDropV ks xs k)) M3)
        | none => .ok (.v z) M3)
      | none => .bad
    | _ => .bad
  | _ => .bad
theorem dDropV_rep {K : PySem.W.Frag} {G : Gh} {H : Hp} {k : Key} : ∀ {kvs : List (Key × V)} {xs : List PV}, RepVs K G H xs (kvs.map (·.2)) → RepVs K G H (dDropV (kvs.map (·.1)) xs k) ((dropK kvs k).map (·.2))
  | [], xs, r => by simpa [dDropV, dropK] using RepVs.nil
  | (q, w) :: kvs, xs, r => by
    cases xs with
    | nil => have := r.length; simp at this
    | cons x xs =>
      obtain ⟨u, us, e2, r1, r2⟩ := RepVs.cons_iff.mp r
      cases e2
      simp only [List.map_cons, dDropV]
      by_cases h : q = k
      · subst h
        have e : dropK ((q, w) :: kvs) q = dropK kvs q := by simp [dropK]
        rw [if_pos rfl, e]; exact dDropV_rep r2
      · have e : dropK ((q, w) :: kvs) k = (q, w) :: dropK kvs k := by simp [dropK, h]
        rw [if_neg h, e]; exact RepVs.cons r1 (dDropV_rep r2)
theorem dDrop_rep {K : PySem.W.Frag} {G : Gh} {H : Hp} {k : Key} {kvs : List (Key × V)} {xs : List PV} (r : RepVs K G H xs (kvs.map (·.2))) (z : kvs.length ≤ sizeLine) : RepO K G H (.dct (dDropK (kvs.map (·.1)) k) (dDropV (kvs.map (·.1)) xs k)) (.dK (dropK kvs k)) :=
  ⟨_, rfl, Nat.le_trans (List.length_filter_le _ _) z, by simp only [dropK, dDropK, List.filter_map]; rfl, dDropV_rep r⟩
section
variable {X : Cx} {E : Ent} {W : WX} {N : List Str} {sc : Scope} {fs : Str → Bool} {k : Nat} {Z : Wd}
section
variable {o e e2 : Expr} {f g : Sm EV} {h : Sm PV} {apos cpos : Pos}
theorem fe_get2 (A : Amb Z X W N sc fs k) (ho : FE X E W o f) (he : FE X E W e g) (hf : FP X E W e2 h) (m : M2 X o "get" apos e e2 cpos := by exact ⟨rfl, rfl, rfl, rfl⟩) : FE X E W (.Call (.Attribute o "get" apos) [e, e2] [] cpos) (eGet2 f g h) := by
  refine ⟨PE.weak (pe_dget2 A.u1 ho.pe he.pe hf.pe m) ?_⟩
  rintro s H Q ⟨G, M, R, hh⟩
  refine tE_one R hh fun G1 M1 H1 x u V1 R1 rx h1 => ?_
  split at h1
  · rename_i kx e1
    obtain ⟨a, kvs, rfl, hr, hk, rr, z⟩ := dct_of R1 rx e1
    refine ⟨a, rfl, .inl ⟨kvs, hr⟩, tE_one R1 h1 fun G2 M2 H2 y v V2 R2 ry h2 => tP_one R2 h2 fun G3 M3 H3 p w V3 R3 rp h3 => ?_⟩
    split at h3
    · rename_i ks xs q e2 e3
      obtain ⟨a', kvs', ea, hr', hk', rr', z'⟩ := dct_of R3 (rx.evo (V2.trans V3)) e2
      cases ea
      have ey := key_rep (ry.evo V3) e3
      refine ⟨valV kvs' q, by rw [ey]; exact rd_dget hr', ?_⟩
      have g := dGet_rep q hk' rr'
      cases e4 : dGet ks xs q with
      | none =>
        rw [e4] at g h3
        simp only at g
        rw [g]
        exact OutP.now h3 R3 w rp
      | some p' =>
        rw [e4] at g h3
        obtain ⟨w', g1, g2⟩ := g
        rw [g1]
        exact OutP.now h3 R3 w' g2
    · exact h3.elim
  · exact h1.elim
theorem isD_mut {K : PySem.W.Frag} {G : Gh} {H : Hp} {a : Addr} {w : HO} {ks : List Key} {xs : List PV} (h : H a = some w) (r : RepO K G H (.dct ks xs) w) : IsD H a := by
  obtain ⟨kvs, rfl, _⟩ := r
  exact .inl ⟨kvs, .inl h⟩
theorem fe_setd (ho : FE X E W o f) (he : FE X E W e g) (hf : FP X E W e2 h) (m : M2 X o "setdefault" apos e e2 cpos := by exact ⟨rfl, rfl, rfl, rfl⟩) : FE X E W (.Call (.Attribute o "setdefault" apos) [e, e2] [] cpos) (eSetd f g h) := by
  refine ⟨PE.weak (pe_dsetd ho.pe he.pe hf.pe m) ?_⟩
  rintro s H Q ⟨G, M, R, hh⟩
  refine tE_one R hh fun G1 M1 H1 x u V1 R1 rx h1 => ?_
  split at h1
  · rename_i k0 x0 e1
    obtain ⟨a, w0, rfl, h3, ro, nf, wr⟩ := mut_ok R1 rx e1
    refine ⟨a, rfl, isD_mut h3 ro, tE_one R1 h1 fun G2 M2 H2 y v V2 R2 ry h2 => tP_one R2 h2 fun G3 M3 H3 p w V3 R3 rp h4 => ?_⟩
    split at h4
    · rename_i ks xs e2
      split at h4
      · rename_i q e3
        split at h4
        · rename_i lt
          obtain ⟨a', w1, ea, h5, ⟨kvs, rfl, z, hk, rr⟩, nf', wr'⟩ := mut_ok R3 (rx.evo (V2.trans V3)) e2
          cases ea
          have ey := key_rep (ry.evo V3) e3
          subst hk
          have lt' : kvs.length < sizeLine := by simpa using lt
          have g := dGet_rep (kvs := kvs) (xs := xs) q rfl rr
          refine ⟨kvs, q, h5, ey, lt', fun v hv => ?_, fun hn => ?_⟩
          · cases e4 : dGet (kvs.map (·.1)) xs q with
            | none => rw [e4] at g; simp only at g; rw [g] at hv; cases hv
            | some p' =>
              rw [e4] at g h4
              obtain ⟨w', g1, g2⟩ := g
              rw [g1] at hv; cases hv
              exact OutP.now h4 R3 _ g2
          · cases e4 : dGet (kvs.map (·.1)) xs q with
            | some p' => rw [e4] at g; obtain ⟨w', g1, g2⟩ := g; rw [g1] at hn; cases hn
            | none =>
              rw [e4] at h4
              obtain ⟨R4, V4⟩ := wr' _ _ (dStore_rep rp rr lt' (k := q))
              exact h4 G3 _ V4 R4 _ (RepV.mono V4.ext _ _ rp)
        · exact h4.elim
      · exact h4.elim
    · exact h4.elim
  · exact h1.elim
theorem fe_pop2 (ho : FE X E W o f) (he : FE X E W e g) (hf : FP X E W e2 h) (m : M2 X o "pop" apos e e2 cpos := by exact ⟨rfl, rfl, rfl, rfl⟩) : FE X E W (.Call (.Attribute o "pop" apos) [e, e2] [] cpos) (ePop2 f g h) := by
  refine ⟨PE.weak (pe_dpop2 ho.pe he.pe hf.pe m) ?_⟩
  rintro s H Q ⟨G, M, R, hh⟩
  refine tE_one R hh fun G1 M1 H1 x u V1 R1 rx h1 => ?_
  split at h1
  · rename_i k0 x0 e1
    obtain ⟨a, w0, rfl, h3, ro, nf, wr⟩ := mut_ok R1 rx e1
    refine ⟨a, rfl, isD_mut h3 ro, tE_one R1 h1 fun G2 M2 H2 y v V2 R2 ry h2 => tP_one R2 h2 fun G3 M3 H3 p w V3 R3 rp h4 => ?_⟩
    split at h4
    · rename_i ks xs e2
      split at h4
      · rename_i q e3
        obtain ⟨a', w1, ea, h5, ⟨kvs, rfl, z, hk, rr⟩, nf', wr'⟩ := mut_ok R3 (rx.evo (V2.trans V3)) e2
        cases ea
        have ey := key_rep (ry.evo V3) e3
        subst hk
        have g := dGet_rep (kvs := kvs) (xs := xs) q rfl rr
        refine ⟨kvs, q, h5, ey, fun v hv => ?_, fun hn => ?_⟩
        · cases e4 : dGet (kvs.map (·.1)) xs q with
          | none => rw [e4] at g; simp only at g; rw [g] at hv; cases hv
          | some p' =>
            rw [e4] at g h4
            obtain ⟨w', g1, g2⟩ := g
            rw [g1] at hv; cases hv
            obtain ⟨R4, V4⟩ := wr' _ _ (dDrop_rep (k := q) rr z)
            exact h4 G3 _ V4 R4 _ (RepV.mono V4.ext _ _ g2)
        · cases e4 : dGet (kvs.map (·.1)) xs q with
          | some p' => rw [e4] at g; obtain ⟨w', g1, g2⟩ := g; rw [g1] at hn; cases hn
          | none =>
            rw [e4] at h4
            exact OutP.now h4 R3 _ rp
      · exact h4.elim
    · exact h4.elim
  · exact h1.elim
end
/-! dict(d) -/
@[simp] def opDctOf : Op1 := fun x M => (asDct M x).map fun p => .fr (.dct p.1 p.2)
theorem opDctOf_ok : Op1Ok X (fun u H Q => ∃ (a : Addr) (kvs : List (Key × V)), [u] = [.ref a] ∧ Rd H a (.dK kvs) ∧ ∀ p, H p = none → Q (.ref p) (upd H p (.dK kvs))) opDctOf := by
  intro E s G M H H0 x u ev Q R d rx e q
  simp only [opDctOf] at e
  cases e1 : asDct M x with
  | none => rw [e1] at e; cases e
  | some kx =>
    rw [e1] at e; cases e
    obtain ⟨ks, xs⟩ := kx
    obtain ⟨a, kvs, rfl, hr, hk, rr, z⟩ := dct_of R rx e1
    refine ⟨a, kvs, rfl, hr, fun p hp => ?_⟩
    obtain ⟨R1, V1, eh, nf, na, no⟩ := R.laid (.dK kvs) hp
    exact q G _ _ V1 R1 ⟨p, _, rfl, upd_same, ⟨kvs, rfl, z, hk, RepVs.mono V1.ext _ _ rr⟩, eh, nf, na, no, d p hp⟩
theorem fe_dictOf (A : Amb Z X W N sc fs k) (hm : Z.mg ("dict" : Str) = none) {e : Expr} {f : Sm EV} {p pos : Pos} (he : FE X E W e f) (hg : sc.names.lookup ("dict" : Str) = some .globalImplicit := by rfl) (h1 : starEach [e] X.env = (false, eval e X.env) :: starEach [] X.env := by rfl) : FE X E W (.Call (.Name "dict" p) [e] [] pos) (e1 opDctOf f) :=
  fe_t1 A call_dictD opDctOf_ok hm PyProof.Rows.boot_dict he hg (by decide) (by decide) h1
end
end HF

end
section
set_option Elab.async false
set_option linter.all false
set_option maxRecDepth 20000
set_option autoImplicit false
/-! HF30: is True, is False; index of a list. -/
namespace HF
open PySem PySem.Spec PyProof.Rows L2
section
variable {X : Cx} {E : Ent} {W : WX} {N : List Str} {sc : Scope} {fs : Str → Bool} {k : Nat} {Z : Wd}
@[simp] def cpIs : Cp2 := fun x y _ => match x, y with
  | .v (.bl a), .v (.bl b) => some (decide (a = b))
  | _, _ => none
@[simp] def cpIsn : Cp2 := fun x y _ => match x, y with
  | .v (.bl a), .v (.bl b) => some (!decide (a = b))
  | _, _ => none
theorem cpIs_ok : Cp2Ok X (fun x y H Q => ∃ a b, x = .bl a ∧ y = .bl b ∧ Q (.bl (decide (a = b))) H) cpIs := by
  intro E s G M H H0 x y u v b Q R rx ry e q
  simp only [cpIs] at e
  split at e
  · rename_i a c
    cases e
    have hu : u = .bl a := by simpa only [RepE, RepV] using rx
    have hv : v = .bl c := by simpa only [RepE, RepV] using ry
    exact ⟨a, c, hu, hv, q⟩
  · cases e
theorem cpIsn_ok : Cp2Ok X (fun x y H Q => ∃ a b, x = .bl a ∧ y = .bl b ∧ Q (.bl (!decide (a = b))) H) cpIsn := by
  intro E s G M H H0 x y u v b Q R rx ry e q
  simp only [cpIsn] at e
  split at e
  · rename_i a c
    cases e
    have hu : u = .bl a := by simpa only [RepE, RepV] using rx
    have hv : v = .bl c := by simpa only [RepE, RepV] using ry
    exact ⟨a, c, hu, hv, q⟩
  · cases e
section
variable {a b : Expr} {f g : Sm EV} {pos : Pos}
theorem fe_is (ha : FE X E W a f) (hb : FE X E W b g) : FE X E W (.Compare a [.Is] [b] pos) (eB (b2 cpIs f g)) := fe_cmp op_is_bl cpIs_ok ha hb (nomark _)
theorem ft_is (ha : FE X E W a f) (hb : FE X E W b g) : FT X E W (.Compare a [.Is] [b] pos) (b2 cpIs f g) := ft_cmp op_is_bl cpIs_ok ha hb (nomark _)
theorem fe_isn (ha : FE X E W a f) (hb : FE X E W b g) : FE X E W (.Compare a [.IsNot] [b] pos) (eB (b2 cpIsn f g)) := fe_cmp op_isnot_bl cpIsn_ok ha hb (nomark _)
theorem ft_isn (ha : FE X E W a f) (hb : FE X E W b g) : FT X E W (.Compare a [.IsNot] [b] pos) (b2 cpIsn f g) := ft_cmp op_isnot_bl cpIsn_ok ha hb (nomark _)
end
end
end HF

end
section
set_option Elab.async false
set_option linter.all false
set_option maxRecDepth 20000
set_option autoImplicit false
/-! HF31: index of a list. -/
namespace HF
open PySem PySem.Spec PyProof.Rows L2
def firstAt {α : Type} [DecidableEq α] (x : α) : List α → Option Nat
  | [] => none
  | y :: l => if y = x then some 0 else (firstAt x l).map (· + 1)
theorem firstAt_spec {α : Type} [DecidableEq α] {x : α} : ∀ {l : List α} {j : Nat}, firstAt x l = some j → l[j]? = some x ∧ ∀ m, m < j → ∀ z, l[m]? = some z → z ≠ x
  | [], j, h => by cases h
  | y :: l, j, h => by
    unfold firstAt at h
    split at h
    · rename_i e; cases h; subst e; exact ⟨rfl, fun m hm => by omega⟩
    · rename_i ne
      cases e : firstAt x l with
      | none => rw [e] at h; cases h
      | some i =>
        rw [e] at h; cases h
        obtain ⟨h1, h2⟩ := firstAt_spec e
        refine ⟨by simpa using h1, fun m hm z hz => ?_⟩
        cases m with
        | zero => simp at hz; subst hz; exact ne
        | succ m => exact h2 m (Nat.lt_of_succ_lt_succ hm) z (by simpa using hz)
theorem firstAt_mem {α : Type} [DecidableEq α] {x : α} : ∀ {l : List α}, x ∈ l → ∃ j, firstAt x l = some j ∧ j < l.length
  | [], h => by simp at h
  | y :: l, h => by
    unfold firstAt
    by_cases e : y = x
    · exact ⟨0, by rw [if_pos e], by simp⟩
    · have h' : x ∈ l := by
        rcases List.mem_cons.mp h with z | z
        · exact absurd z.symm e
        · exact z
      obtain ⟨j, h1, h2⟩ := firstAt_mem h'
      exact ⟨j + 1, by rw [if_neg e, h1]; rfl, by simp; omega⟩
def idxPV (xs : List PV) (p : PV) : Option Nat := match p with
  | .int i => (asInts xs).bind (firstAt i)
  | .str z => (asStrs xs).bind (firstAt z)
  | _ => none
section
variable {X : Cx} {E : Ent} {W : WX} {N : List Str} {sc : Scope} {fs : Str → Bool} {k : Nat} {Z : Wd}
@[simp] def eIndex (f g : Sm EV) : Sm EV := fun M => (f M).bnd fun x M1 => match asLst M1 x with
  | none => .bad
  | some _ => (g M1).bnd fun y M2 => match asLst M2 x, y with
    | some xs, .v p => match idxPV xs p with
      | some j => .ok (.v (.int (j : Nat))) M2
      | none => .bad
    | _, _ => .bad
theorem idx_ok {K : PySem.W.Frag} {G : Gh} {H : Hp} {xs : List PV} {us : List V} {p : PV} {v : V} {j : Nat} (hX : X.K = K) (h : idxPV xs p = some j) (r : RepVs K G H xs us) (rp : RepV K G H p v) :
    flatV v = true ∧ us.all flatV = true ∧ ∃ z, us[j]? = some z ∧ eqV z v = true ∧ ∀ (m : Nat) (z' : V), m < j → us[m]? = some z' → eqV z' v = false := by
  subst hX
  cases p <;> simp only [idxPV] at h <;> try cases h
  · rename_i i
    cases e : asInts xs with
    | none => rw [e] at h; cases h
    | some ns =>
      rw [e] at h
      have hv : v = .int i := by simpa only [RepV] using rp
      have hu := asInts_rep e r
      obtain ⟨h1, h2⟩ := firstAt_spec (show firstAt i ns = some j from h)
      subst hv; subst hu
      refine ⟨rfl, by simp [List.all_map, flatV], .int i, by rw [List.getElem?_map, h1]; rfl, by simp [eqV], fun m z' hm hz => ?_⟩
      rw [List.getElem?_map] at hz
      cases e2 : ns[m]? with
      | none => rw [e2] at hz; cases hz
      | some a =>
        rw [e2] at hz; cases hz
        have := h2 m hm a e2
        simpa [eqV] using this
  · rename_i i
    cases e : asStrs xs with
    | none => rw [e] at h; cases h
    | some ns =>
      rw [e] at h
      have hv : v = .str i := by simpa only [RepV] using rp
      have hu := asStrs_rep e r
      obtain ⟨h1, h2⟩ := firstAt_spec (show firstAt i ns = some j from h)
      subst hv; subst hu
      refine ⟨rfl, by simp [List.all_map, flatV], .str i, by rw [List.getElem?_map, h1]; rfl, by simp [eqV], fun m z' hm hz => ?_⟩
      rw [List.getElem?_map] at hz
      cases e2 : ns[m]? with
      | none => rw [e2] at hz; cases hz
      | some a =>
        rw [e2] at hz; cases hz
        have := h2 m hm a e2
        simpa [eqV] using this
section
variable {o e : Expr} {f g : Sm EV} {apos cpos : Pos}
theorem fe_index (ho : FE X E W o f) (he : FE X E W e g) (hbase : attributeBase o "index" X.env (eval o X.env) = eval o X.env := by rfl)
    (hfew : ((backTo cpos (starEach [e] X.env)).all (fun x => !x.1) && (backToKw cpos (keywordEach [] X.env)).all (fun x => x.1.isSome) && decide ([e].length + ([] : List Keyword).length + (if ([] : List Keyword).isEmpty then 0 else 1) < 30)) = true := by rfl)
    (hline : (apos.endLine == cpos.line) = true := by rfl) (hs : starEach [e] X.env = (false, eval e X.env) :: starEach [] X.env := by rfl) : FE X E W (.Call (.Attribute o "index" apos) [e] [] cpos) (eIndex f g) := by
  refine ⟨PE.weak (pe_bm PySem.F.plainAttrs_list PySem.F.slot_list_index PySem.F.type_list_index mt_index ho.pe (pa_cons he.pe pa_nil hs) hbase hfew hline hs) ?_⟩
  rintro s H Q ⟨G, M, R, h⟩
  refine tE_one R h fun G1 M1 H1 x u V1 R1 rx h1 => ?_
  split at h1
  · exact h1.elim
  · rename_i zs ez
    obtain ⟨b, bs, rfl, hb, _⟩ := lst_of R1 rx ez
    refine ⟨tyL hb, tE_one R1 h1 fun G2 M2 H2 y v V2 R2 ry h2 => ?_⟩
    split at h2
    · rename_i xs p em
      obtain ⟨a, us, ea, h3, rr, z⟩ := lst_of R2 (rx.evo V2) em
      cases ea
      cases ei : idxPV xs p with
      | none => rw [ei] at h2; exact h2.elim
      | some j =>
        rw [ei] at h2
        obtain ⟨k1, k2, z', k3, k4, k5⟩ := idx_ok rfl ei rr ry
        exact ⟨b, us, v, j, z', rfl, rfl, h3, k1, k2, k3, k4, k5, OutP.now h2 R2 _ (by show RepV X.K G2 H2 _ _; simp only [RepV])⟩
    · exact h2.elim
end
end
end HF

end
section
set_option Elab.async false
set_option linter.all false
set_option maxRecDepth 20000
set_option autoImplicit false
/-! HF32: == of dicts. -/
namespace HF
open PySem PySem.Spec PyProof.Rows L2
inductive HitsV (K : PySem.W.Frag) (H : Hp) (lvs : List (Key × V)) : List (Key × V) → Bool → Prop
  | nil : HitsV K H lvs [] true
  | miss {k : Key} {v : V} {r : List (Key × V)} : valV lvs k = none → HitsV K H lvs ((k, v) :: r) false
  | hit {k : Key} {v u : V} {r : List (Key × V)} {d e : PyData} {b : Bool} : valV lvs k = some u → Dp K H v d → Dp K H u e → SeqAt.shaped d = true → SeqAt.shaped e = true → HitsV K H lvs r b → HitsV K H lvs ((k, v) :: r) (PyData.eqv d e && b)
def dEq (ls : List Key) (ys : List PV) : List Key → List PV → Option Bool
  | [], [] => some true
  | k :: ks, x :: xs => match dGet ls ys k with
    | none => some false
    | some y => match x.toD, y.toD, dEq ls ys ks xs with
      | some d, some e, some b => if SeqAt.shaped d && SeqAt.shaped e then some (PyData.eqv d e && b) else none
      | _, _, _ => none
  | _, _ => none
@[simp] def cpEqK : Cp2 := fun x y M => match asDct M x, asDct M y with
  | some (ks, xs), some (ls, ys) => if ks.length = ls.length then dEq ls ys ks xs else some false
  | _, _ => none
@[simp] def cpNeK : Cp2 := fun x y M => (cpEqK x y M).map (!·)
def rEqK (K : PySem.W.Frag) (neg : Bool) : R2 := fun x y H Q => ∃ a b kvs lvs r, x = .ref a ∧ y = .ref b ∧ Rd H a (.dK kvs) ∧ Rd H b (.dK lvs) ∧ (kvs.length = lvs.length → HitsV K H lvs kvs r) ∧ Q (.bl (if neg then !(decide (kvs.length = lvs.length) && r) else (decide (kvs.length = lvs.length) && r))) H
section
variable {X : Cx} {E : Ent} {W : WX} {N : List Str} {sc : Scope} {fs : Str → Bool} {k : Nat} {Z : Wd}
theorem hitsV_run {pins : List (Addr × Obj)} {σ : L2.St} {H : Hp} {s : Shared} (I : Inv X pins σ H s) (hu : X.A.units + 65 < cLine) {lvs : List (Key × V)} {vb : List (Key × Value)} (rb : KV lvs vb) {kvs : List (Key × V)} {va : List (Key × Value)} (ra : KV kvs va) {r : Bool} (h : HitsV X.K H lvs kvs r) : PySem.W.KeqHits X.A.in1 s vb va r := by
  induction h generalizing va with
  | nil => cases ra; exact .nil
  | @miss k v rest hn =>
    cases ra with
    | @cons p q ps qs h t =>
      obtain ⟨h1, h2⟩ := h
      obtain ⟨key, w⟩ := q
      have h1 : k = key := h1
      subst h1
      have rr := rb.val k
      rw [hn] at rr
      refine .miss ?_
      cases e : valueAt vb k with
      | none => rfl
      | some y => rw [e] at rr; exact rr.elim
  | @hit k v u rest d e b hv hd he sd se _ ih =>
    cases ra with
    | @cons p q ps qs h t =>
      obtain ⟨h1, h2⟩ := h
      obtain ⟨key, w⟩ := q
      have h1 : k = key := h1
      subst h1
      have rr : RelO (some u) (valueAt vb k) := by rw [← hv]; exact rb.val k
      obtain ⟨y, hy, ry⟩ := rr.some_of
      obtain ⟨as, r1⟩ := Dp.reads I d v w hd h2
      obtain ⟨bs, r2⟩ := Dp.reads I e u y he ry
      exact .hit hy (PySem.W.keq_at r1 r2 sd se (by show X.A.units + 1 + 64 < cLine; omega)) (ih t)
theorem op_eqK (hu : X.A.units + 65 < cLine) : OpR X (compareOp .Eq) (rEqK X.K false) := by
  intro pins s σ H x y v u Q I rx ry h
  obtain ⟨a, b, kvs, lvs, r, rfl, rfl, ha, hb, hh, q⟩ := h
  cases rx; cases ry
  obtain ⟨_, ya, va, ra, da⟩ := dk_rd I.hok ha
  obtain ⟨_, yb, vb, rb, db⟩ := dk_rd I.hok hb
  refine PySem.W.keq_eq (knd := mixKind X.prog X.w) (r := r) ya yb da db (by omega) (fun e => hitsV_run I hu rb ra (hh (by rw [ra.length, rb.length]; exact e))) ⟨.bl _, H, I, rfl, ?_⟩
  have e : (va.length == vb.length) = decide (kvs.length = lvs.length) := by rw [ra.length, rb.length]; rfl
  rw [e]
  exact q
theorem op_neK (hu : X.A.units + 65 < cLine) : OpR X (compareOp .NotEq) (rEqK X.K true) := by
  intro pins s σ H x y v u Q I rx ry h
  obtain ⟨a, b, kvs, lvs, r, rfl, rfl, ha, hb, hh, q⟩ := h
  cases rx; cases ry
  obtain ⟨_, ya, va, ra, da⟩ := dk_rd I.hok ha
  obtain ⟨_, yb, vb, rb, db⟩ := dk_rd I.hok hb
  refine PySem.W.keq_ne (knd := mixKind X.prog X.w) (r := r) ya yb da db (by omega) (fun e => hitsV_run I hu rb ra (hh (by rw [ra.length, rb.length]; exact e))) ⟨.bl _, H, I, rfl, ?_⟩
  have e : (va.length == vb.length) = decide (kvs.length = lvs.length) := by rw [ra.length, rb.length]; rfl
  rw [e]
  exact q
theorem dEq_rep {K : PySem.W.Frag} {G : Gh} {H : Hp} {lvs : List (Key × V)} {ls : List Key} {ys : List PV} (hl : lvs.map (·.1) = ls) (rl : RepVs K G H ys (lvs.map (·.2))) : ∀ {kvs : List (Key × V)} {ks : List Key} {xs : List PV} {r : Bool}, kvs.map (·.1) = ks → RepVs K G H xs (kvs.map (·.2)) → dEq ls ys ks xs = some r → HitsV K H lvs kvs r
  | [], ks, xs, r, hk, rk, h => by
    subst hk
    rw [RepVs.length (vs := []) rk |> List.length_eq_zero_iff.mp] at h
    cases h; exact .nil
  | (k, v) :: kvs, ks, xs, r, hk, rk, h => by
    subst hk
    cases xs with
    | nil => have := rk.length; simp at this
    | cons x xs =>
      obtain ⟨u, us, e2, r1, r2⟩ := RepVs.cons_iff.mp rk
      simp only [List.map_cons, List.cons.injEq] at e2
      obtain ⟨rfl, rfl⟩ := e2
      simp only [List.map_cons, dEq] at h
      have g := dGet_rep k hl rl
      split at h
      · rename_i e
        rw [e] at g
        cases h
        exact .miss g
      · rename_i y e
        rw [e] at g
        obtain ⟨w, g1, g2⟩ := g
        split at h
        · rename_i d d' b e1 e2 e3
          split at h
          · rename_i z
            rw [Bool.and_eq_true] at z
            cases h
            exact .hit g1 (toD_rep _ _ _ e1 r1) (toD_rep _ _ _ e2 g2) z.1 z.2 (dEq_rep hl rl rfl r2 e3)
          · cases h
        · cases h
theorem cpEqK_rep {E : Ent} {s : L2.St} {G : Gh} {M : Mem} {H H0 : Hp} {x y : EV} {u v : V} {b : Bool} (R : StRep X.K E G M s H) (rx : RepE X.K E H0 G M s H x u) (ry : RepE X.K E H0 G M s H y v) (e : cpEqK x y M = some b) :
    ∃ a c kvs lvs r, u = .ref a ∧ v = .ref c ∧ Rd H a (.dK kvs) ∧ Rd H c (.dK lvs) ∧ (kvs.length = lvs.length → HitsV X.K H lvs kvs r) ∧ b = (decide (kvs.length = lvs.length) && r) := by
  simp only [cpEqK] at e
  split at e
  · rename_i ks xs ls ys e1 e2
    obtain ⟨a, kvs, rfl, h1, hk, rk, _⟩ := dct_of R rx e1
    obtain ⟨c, lvs, rfl, h2, hl, rl, _⟩ := dct_of R ry e2
    have l1 : ks.length = kvs.length := by rw [← hk, List.length_map]
    have l2 : ls.length = lvs.length := by rw [← hl, List.length_map]
    rw [l1, l2] at e
    split at e
    · rename_i hz
      exact ⟨a, c, kvs, lvs, b, rfl, rfl, h1, h2, fun _ => dEq_rep hl rl hk rk e, by rw [decide_eq_true hz]; rfl⟩
    · rename_i hz
      cases e
      exact ⟨a, c, kvs, lvs, false, rfl, rfl, h1, h2, fun z => absurd z hz, by simp⟩
  · cases e
theorem cpEqK_ok : Cp2Ok X (rEqK X.K false) cpEqK := by
  intro E s G M H H0 x y u v b Q R rx ry e q
  obtain ⟨a, c, kvs, lvs, r, rfl, rfl, h1, h2, h3, h4⟩ := cpEqK_rep R rx ry e
  exact ⟨a, c, kvs, lvs, r, rfl, rfl, h1, h2, h3, by rw [h4] at q; exact q⟩
theorem cpNeK_ok : Cp2Ok X (rEqK X.K true) cpNeK := by
  intro E s G M H H0 x y u v b Q R rx ry e q
  simp only [cpNeK] at e
  cases e1 : cpEqK x y M with
  | none => rw [e1] at e; cases e
  | some z =>
    rw [e1] at e
    obtain ⟨a, c, kvs, lvs, r, rfl, rfl, h1, h2, h3, h4⟩ := cpEqK_rep R rx ry e1
    cases e
    exact ⟨a, c, kvs, lvs, r, rfl, rfl, h1, h2, h3, by rw [h4] at q; exact q⟩
section
variable {a b : Expr} {f g : Sm EV} {pos : Pos}
theorem fe_eqK (A : Amb Z X W N sc fs k) (ha : FE X E W a f) (hb : FE X E W b g) : FE X E W (.Compare a [.Eq] [b] pos) (eB (b2 cpEqK f g)) := fe_cmp (op_eqK A.u65) cpEqK_ok ha hb (nomark _)
theorem ft_eqK (A : Amb Z X W N sc fs k) (ha : FE X E W a f) (hb : FE X E W b g) : FT X E W (.Compare a [.Eq] [b] pos) (b2 cpEqK f g) := ft_cmp (op_eqK A.u65) cpEqK_ok ha hb (nomark _)
theorem fe_neK (A : Amb Z X W N sc fs k) (ha : FE X E W a f) (hb : FE X E W b g) : FE X E W (.Compare a [.NotEq] [b] pos) (eB (b2 cpNeK f g)) := fe_cmp (op_neK A.u65) cpNeK_ok ha hb (nomark _)
theorem ft_neK (A : Amb Z X W N sc fs k) (ha : FE X E W a f) (hb : FE X E W b g) : FT X E W (.Compare a [.NotEq] [b] pos) (b2 cpNeK f g) := ft_cmp (op_neK A.u65) cpNeK_ok ha hb (nomark _)
end
/-- equal to itself -/
theorem dEq_same {ls : List Key} {ys : List PV} {ks : List Key} {xs : List PV} (hl : ks.length = xs.length) (h : ∀ p ∈ ks.zip xs, dGet ls ys p.1 = some p.2 ∧ ∃ d, p.2.toD = some d ∧ SeqAt.shaped d = true ∧ PyData.eqv d d = true) : dEq ls ys ks xs = some true := by
  induction ks generalizing xs with
  | nil =>
    cases xs with
    | nil => rfl
    | cons x xs => simp at hl
  | cons k ks ih =>
    cases xs with
    | nil => simp at hl
    | cons x xs =>
      obtain ⟨h1, d, h2, h3, h4⟩ := h (k, x) (by simp)
      have := ih (xs := xs) (by simpa using hl) fun p hp => h p (by simp [hp])
      simp only at h1 h2
      simp only [dEq, h1, h2, this, h3, h4]
      rfl
end
end HF

end
section
set_option Elab.async false
set_option linter.all false
set_option maxRecDepth 20000
set_option autoImplicit false
/-! HF33: dict(zip(a, b)). -/
namespace HF
open PySem PySem.Spec PyProof.Rows L2
def tDctZip (K : PySem.W.Frag) (ta : TA) : TE := fun σ H Q => ta σ H fun vs H1 => ∃ (a b : Addr) (ks : List Key) (ys : List V), vs = [.ref a, .ref b] ∧ SqL K H1 a (ks.map kV) ∧ SqL K H1 b ys ∧ ks.length = ys.length ∧
  ∀ p, H1 p = none → Q (.ref p) (upd H1 p (.dK (mergeK [] (ks.zip ys))))
theorem kv_zip : ∀ {ks : List Key} {ys : List V} {its2 : List Value}, Vals ys its2 → KV (ks.zip ys) (ks.zip its2)
  | [], ys, its2, r => by simp; exact .nil
  | k :: ks, [], its2, r => by cases r; exact .nil
  | k :: ks, y :: ys, its2, r => by
    cases r with
    | cons r1 r2 => exact .cons ⟨rfl, r1⟩ (kv_zip r2)
theorem vals_get {xs : List V} {us : List Value} (r : Vals xs us) : ∀ (i : Nat) (u : Value), us[i]? = some u → ∃ x, xs[i]? = some x ∧ RelV x u := by
  induction r with
  | nil => intro i u h; simp at h
  | cons h1 _ ih =>
    intro i u h
    cases i with
    | zero => simp at h; subst h; exact ⟨_, rfl, h1⟩
    | succ i => exact ih i u (by simpa using h)
theorem pe_dctZip {X : Cx} {e e2 : Expr} {ta : TA} {p p2 pos pos2 : Pos} (hgd : Gl X "dict") (hmd : X.mg "dict" = none) (hgz : Gl X "zip") (hmz : X.mg "zip" = none) (ha : PA X [e, e2] ta) (hc : X.calm = true)
    (hs : starEach [e, e2] X.env = (false, eval e X.env) :: starEach [e2] X.env := by rfl) (hpl : (backTo pos2 (starEach [e2] X.env)).any (·.1) = false := by rfl)
    (na : starEach [(.Call (.Name "zip" p2) [e, e2] [] pos2)] X.env = (false, eval (.Call (.Name "zip" p2) [e, e2] [] pos2) X.env) :: starEach [] X.env := by rfl) :
    PE X (.Call (.Name "dict" p) [.Call (.Name "zip" p2) [e, e2] [] pos2] [] pos) (tDctZip X.K ta) := by
  refine ⟨fun pins s σ H Q I h => ?_⟩
  refine Call_ (ld_blt I hgd hmd PyProof.Rows.boot_dict ?_)
  refine PyProof.Rows.callWith_type1 (PyProof.Rows.args_cons ?_ na) na rfl
  refine Call_ (ld_blt I hgz hmz PyProof.Rows.boot_zip (PyProof.Rows.callWith_type1 (thn (ha.run pos2 pins s σ H _ I h) fun us s1 ⟨vs, H1, I1, r1, q1⟩ => ?_) hs hpl))
  obtain ⟨a, b, ks, ys, ex, hqx, hqy, hl, q⟩ := q1
  subst ex
  cases r1 with
  | cons r rr =>
    cases rr with
    | cons r' rr =>
      cases rr
      cases r
      cases r'
      obtain ⟨its, rv, p1, hz1⟩ := I1.list hqx
      obtain ⟨its2, rv2, p2', _⟩ := I1.list hqy
      have l1 := rv.length
      have l2 := rv2.length
      rw [List.length_map] at l1 hz1
      refine call_zip_2 p1.isList p2'.isList fun h' hz hTI hTO hi1 hi2 hsz hk => ?_
      refine PyProof.Rows.args_nil ?_
      have D := PySem.W.ktu_apart s1.heap.objs.size a b p1.lt p2'.lt
      have P := PairArg.zip (prog := X.prog) (w := X.w) _ _ _ _ _ _ _ D its.toArray its2.toArray
      have big : ∀ c o, s1.heap.get? c = some o → c < s1.heap.objs.size := fun c o e => Heap.lt_size e
      refine PySem.call_dict_pairs (knd := mixKind X.prog X.w) (kvs := ks.zip its2) P (I1.ok.hd hc) ⟨hz, hTI, ⟨_, _, hTO⟩, hi1, hi2, Heap.IsList.at p1.isList (fun o e => hk _ o e), Heap.IsList.at p2'.isList (fun o e => hk _ o e)⟩ ⟨?_, ?_⟩ ?_ ?_
      · simp; omega
      · rintro i key v ⟨h1, h2⟩
        have h1 : its[i]? = some key := by simpa using h1
        have h2 : its2[i]? = some v := by simpa using h2
        obtain ⟨x, e1, e2'⟩ := vals_get rv i key h1
        rw [List.getElem?_map] at e1
        cases e3 : ks[i]? with
        | none => rw [e3] at e1; cases e1
        | some kk =>
          rw [e3] at e1
          cases e1
          refine ⟨kk, ?_, kV_is e2'⟩
          rw [List.getElem?_zip_eq_some]
          exact ⟨e3, h2⟩
      · simp; omega
      · intro h'' tk hd' hk'
        have keep : ∀ c o, s1.heap.get? c = some o → h''.get? c = some o := fun c o e => by
          refine hk' c o ?_ (hk c o e)
          have hlt : c < s1.heap.objs.size := big c o e
          simp only [List.mem_cons, List.not_mem_nil, or_false]
          intro z
          rcases z with z | z | z | z <;> (rw [z] at hlt; exact Nat.lt_irrefl _ (Nat.lt_of_le_of_lt (by first | exact Nat.le_add_right _ _ | exact Nat.le_refl _) hlt))
        have hlen : (mergeK [] (ks.zip ys)).length ≤ sizeLine := by
          refine Nat.le_trans (length_mergeK (ks.zip ys) []) ?_
          simp only [List.length_nil, List.length_zip]
          omega
        have hm : (h'.objs.size == sysModules) = false := beq_eq_false_iff_ne.mpr (Nat.ne_of_gt (by rw [hsz]; exact Nat.lt_of_lt_of_le I1.big (Nat.le_add_right _ _)))
        exact ⟨.ref h'.objs.size, upd H1 h'.objs.size (.dK (mergeK [] (ks.zip ys))), I1.laid (t' := tk) keep (by omega) (show ObjOk X.prog X.w _ _ _ (.dK (mergeK [] (ks.zip ys))) from ⟨hlen, hm, merged [] (ks.zip its2), KV.merge (kv_zip rv2) .nil, hd'⟩), rfl, q _ (I1.hok.fresh (by omega))⟩
/-- the keys -/
def asKeys : List PV → Option (List Key)
  | [] => some []
  | .int i :: r => (asKeys r).map (.inl i :: ·)
  | .str i :: r => (asKeys r).map (.inr i :: ·)
  | _ => none
theorem asKeys_rep {K : PySem.W.Frag} {G : Gh} {H : Hp} : ∀ {xs : List PV} {us : List V} {ns : List Key}, asKeys xs = some ns → RepVs K G H xs us → us = ns.map kV
  | [], us, ns, e, r => by cases e; rw [RepVs.nil_iff.mp r]; rfl
  | x :: xs, us, ns, e, r => by
    obtain ⟨u, ws, rfl, r1, r2⟩ := RepVs.cons_iff.mp r
    cases x <;> simp only [asKeys] at e <;> try cases e
    · rename_i i
      cases e1 : asKeys xs with
      | none => rw [e1] at e; cases e
      | some ms =>
        rw [e1] at e; cases e
        simp only [RepV] at r1
        rw [asKeys_rep e1 r2, r1]
        rfl
    · rename_i i
      cases e1 : asKeys xs with
      | none => rw [e1] at e; cases e
      | some ms =>
        rw [e1] at e; cases e
        simp only [RepV] at r1
        rw [asKeys_rep e1 r2, r1]
        rfl
theorem mergeK_nd : ∀ (more acc : List (Key × V)), ((acc ++ more).map (·.1)).Nodup → mergeK acc more = acc ++ more
  | [], acc, _ => by simp [mergeK]
  | p :: r, acc, h => by
    have e : putK acc p.1 p.2 = acc ++ [p] := by
      unfold putK
      rw [if_neg]
      intro z
      obtain ⟨q, hq, e⟩ := List.any_eq_true.mp z
      rw [List.map_append, List.nodup_append] at h
      exact h.2.2 q.1 (List.mem_map_of_mem hq) p.1 (by simp) (of_decide_eq_true e)
    show mergeK (putK acc p.1 p.2) r = _
    rw [e, mergeK_nd r (acc ++ [p]) (by simpa using h)]
    simp
section
variable {X : Cx} {E : Ent} {W : WX} {N : List Str} {sc : Scope} {fs : Str → Bool} {k : Nat} {Z : Wd}
@[simp] def eDctZip (f : Sm (List PV)) : Sm EV := fun M => (f M).bnd fun ps M1 => match ps with
  | [x, y] => match asLst M1 (.v x), asLst M1 (.v y) with
    | some xs, some ys => match asKeys xs with
      | some ks => if ks.Nodup ∧ ks.length = ys.length then .ok (.fr (.dct ks ys)) M1 else .bad
      | none => .bad
    | _, _ => .bad
  | _ => .bad
theorem fe_dctZip (A : Amb Z X W N sc fs k) (hmd : Z.mg ("dict" : Str) = none) (hmz : Z.mg ("zip" : Str) = none) {e e2 : Expr} {f : Sm (List PV)} {p p2 pos pos2 : Pos} (ha : FL X E W [e, e2] f)
    (hgd : sc.names.lookup ("dict" : Str) = some .globalImplicit := by rfl) (hgz : sc.names.lookup ("zip" : Str) = some .globalImplicit := by rfl)
    (hs : starEach [e, e2] X.env = (false, eval e X.env) :: starEach [e2] X.env := by rfl) (hpl : (backTo pos2 (starEach [e2] X.env)).any (·.1) = false := by rfl)
    (na : starEach [(.Call (.Name "zip" p2) [e, e2] [] pos2)] X.env = (false, eval (.Call (.Name "zip" p2) [e, e2] [] pos2) X.env) :: starEach [] X.env := by rfl) :
    FE X E W (.Call (.Name "dict" p) [.Call (.Name "zip" p2) [e, e2] [] pos2] [] pos) (eDctZip f) := by
  refine ⟨PE.weak (pe_dctZip (A.gl hgd) (by rw [A.same.2.2.2.1]; exact hmd) (A.gl hgz) (by rw [A.same.2.2.2.1]; exact hmz) ha.fa.pe A.calm hs hpl na) ?_⟩
  rintro s H Q ⟨G, M, R, h⟩
  refine tL_one R h fun G1 M1 H1 ps us V1 R1 rp h1 => ?_
  split at h1
  · rename_i x y
    obtain ⟨u, ws, rfl, r1, r2⟩ := RepVs.cons_iff.mp rp
    obtain ⟨v, ws2, rfl, r3, r4⟩ := RepVs.cons_iff.mp r2
    rw [RepVs.nil_iff.mp r4]
    split at h1
    · rename_i xs ys e1 e2
      obtain ⟨a, us1, rfl, q1, rr1, z1⟩ := lst_of (H0 := H1) R1 (show RepE X.K E H1 G1 M1 s H1 (.v x) u from r1) e1
      obtain ⟨b, us2, rfl, q2, rr2, z2⟩ := lst_of (H0 := H1) R1 (show RepE X.K E H1 G1 M1 s H1 (.v y) v from r3) e2
      split at h1
      · rename_i ks ek
        split at h1
        · rename_i hnd
          have eu := asKeys_rep ek rr1
          subst eu
          have l2 := rr2.length
          have zl : (ks.zip us2).map (·.1) = ks := List.map_fst_zip (by omega)
          have zr : (ks.zip us2).map (·.2) = us2 := List.map_snd_zip (by omega)
          have em : mergeK [] (ks.zip us2) = ks.zip us2 := by
            rw [mergeK_nd _ _ (by rw [List.nil_append, zl]; exact hnd.1)]; rfl
          refine ⟨a, b, ks, us2, rfl, q1, q2, by omega, fun c hp => ?_⟩
          rw [em]
          obtain ⟨R2, V2, eh, nf, na', no⟩ := R1.laid (.dK (ks.zip us2)) hp
          refine h1 G1 _ V2 R2 _ ⟨c, _, rfl, upd_same, ⟨_, rfl, ?_, zl, by rw [zr]; exact RepVs.mono V2.ext _ _ rr2⟩, eh, nf, na', no, V1.dom c hp⟩
          rw [List.length_map] at z1
          simp; omega
        · exact h1.elim
      · exact h1.elim
    · exact h1.elim
  · exact h1.elim
end
theorem asKeys_ints (l : List Int) : asKeys (l.map .int) = some (l.map .inl) := by
  induction l with
  | nil => rfl
  | cons x l ih => simp [asKeys, ih]
theorem asKeys_strs (l : List Str) : asKeys (l.map .str) = some (l.map .inr) := by
  induction l with
  | nil => rfl
  | cons x l ih => simp [asKeys, ih]
end HF

end
section
set_option Elab.async false
set_option linter.all false
set_option maxRecDepth 20000
set_option autoImplicit false
/-! HF34: zip walked; what is never reached. -/
namespace HF
open PySem PySem.Spec PyProof.Rows L2
def zipP (xs ys : List PV) : List PV := List.zipWith (fun x y => .tup [x, y]) xs ys
theorem zipP_len (xs ys : List PV) : (zipP xs ys).length = min xs.length ys.length := by simp [zipP]
theorem zipP_get {xs ys : List PV} {i : Nat} {p : PV} (h : (zipP xs ys)[i]? = some p) : ∃ x y, xs[i]? = some x ∧ ys[i]? = some y ∧ p = .tup [x, y] := by
  unfold zipP at h
  rw [List.getElem?_zipWith] at h
  cases e1 : xs[i]? with
  | none => rw [e1] at h; simp at h
  | some x =>
    cases e2 : ys[i]? with
    | none => rw [e1, e2] at h; simp at h
    | some y => rw [e1, e2] at h; simp at h; exact ⟨x, y, rfl, rfl, h.symm⟩
section
variable {X : Cx} {E : Ent} {W : WX} {N : List Str} {sc : Scope} {fs : Str → Bool} {k : Nat} {Z : Wd}
theorem wk_zipT {K : PySem.W.Frag} {xs ys : List PV} {s0 : L2.St} {G0 : Gh} {H0 : Hp} {a b : Addr} (hz : xs.length ≤ sizeLine) (v : ∀ G M s H, StRep K E G M s H → Ext G0 H0 G H → ∃ us, SqT K H a us ∧ RepVs K G H xs us) (v2 : ∀ G M s H, StRep K E G M s H → Ext G0 H0 G H → ∃ us, SqT K H b us ∧ RepVs K G H ys us) (hK : X.K = K) : Wk K E (.v .non) (zipP xs ys) s0 (RZ.ItzT K a b) G0 H0 where
  go := fun i G M s H R x c sa lt => by
    obtain ⟨us, q, r⟩ := v G M s H R x
    obtain ⟨ws, q2, r2⟩ := v2 G M s H R x
    rw [zipP_len] at lt
    have l1 := r.length
    have l2 := r2.length
    have lt1 : i < us.length := by omega
    have lt2 : i < ws.length := by omega
    exact ⟨us, ws, us[i], ws[i], q, q2, List.getElem?_eq_getElem lt1, List.getElem?_eq_getElem lt2⟩
  yld := fun i G M s H y H' p R x c sa e1 e2 => by
    subst hK
    obtain ⟨us, q, r⟩ := v G M s H R x
    obtain ⟨ws, q2, r2⟩ := v2 G M s H R x
    obtain ⟨T, z, z2, rfl, hT, rfl, h2, h3⟩ := e2
    obtain ⟨px, py, e3, e4, rfl⟩ := zipP_get e1
    obtain ⟨p1, k1, k2⟩ := r.getV (h2 us q)
    obtain ⟨p2, k3, k4⟩ := r2.getV (h3 ws q2)
    rw [k1] at e3; cases e3
    rw [k3] at e4; cases e4
    obtain ⟨V1, R1, r1⟩ := rep_newtup (X := X) R (ps := [px, py]) (us := [z, z2]) (RepVs.cons k2 (RepVs.cons k4 RepVs.nil)) (by rw [sizeLine_eq]; simp) hT
    exact ⟨_, V1, R1, r1⟩
  stop := fun i G M s H R x c sa le => by
    obtain ⟨us, q, r⟩ := v G M s H R x
    obtain ⟨ws, q2, r2⟩ := v2 G M s H R x
    rw [zipP_len] at le
    have l1 := r.length
    have l2 := r2.length
    exact ⟨us, ws, q, q2, by omega⟩
  sz := by rw [zipP_len]; omega
theorem wk_zipL {K : PySem.W.Frag} {xs ys : List PV} {s0 : L2.St} {G0 : Gh} {H0 : Hp} {a b : Addr} (hz : xs.length ≤ sizeLine) (v : ∀ G M s H, StRep K E G M s H → Ext G0 H0 G H → ∃ us, SqL K H a us ∧ RepVs K G H xs us) (v2 : ∀ G M s H, StRep K E G M s H → Ext G0 H0 G H → ∃ us, SqL K H b us ∧ RepVs K G H ys us) (hK : X.K = K) : Wk K E (.v .non) (zipP xs ys) s0 (Itz K a b) G0 H0 where
  go := fun i G M s H R x c sa lt => by
    obtain ⟨us, q, r⟩ := v G M s H R x
    obtain ⟨ws, q2, r2⟩ := v2 G M s H R x
    rw [zipP_len] at lt
    have l1 := r.length
    have l2 := r2.length
    have lt1 : i < us.length := by omega
    have lt2 : i < ws.length := by omega
    exact ⟨us, ws, us[i], ws[i], q, q2, List.getElem?_eq_getElem lt1, List.getElem?_eq_getElem lt2⟩
  yld := fun i G M s H y H' p R x c sa e1 e2 => by
    subst hK
    obtain ⟨us, q, r⟩ := v G M s H R x
    obtain ⟨ws, q2, r2⟩ := v2 G M s H R x
    obtain ⟨T, z, z2, rfl, hT, rfl, h2, h3⟩ := e2
    obtain ⟨px, py, e3, e4, rfl⟩ := zipP_get e1
    obtain ⟨p1, k1, k2⟩ := r.getV (h2 us q)
    obtain ⟨p2, k3, k4⟩ := r2.getV (h3 ws q2)
    rw [k1] at e3; cases e3
    rw [k3] at e4; cases e4
    obtain ⟨V1, R1, r1⟩ := rep_newtup (X := X) R (ps := [px, py]) (us := [z, z2]) (RepVs.cons k2 (RepVs.cons k4 RepVs.nil)) (by rw [sizeLine_eq]; simp) hT
    exact ⟨_, V1, R1, r1⟩
  stop := fun i G M s H R x c sa le => by
    obtain ⟨us, q, r⟩ := v G M s H R x
    obtain ⟨ws, q2, r2⟩ := v2 G M s H R x
    rw [zipP_len] at le
    have l1 := r.length
    have l2 := r2.length
    exact ⟨us, ws, q, q2, by omega⟩
  sz := by rw [zipP_len]; omega
@[simp] def srcZip (f : Sm (List PV)) : Sm Src := fun M => (f M).bnd fun ps M1 => match ps with
  | [.tup xs, .tup ys] => .ok (.v .non, zipP xs ys) M1
  | [.lst xs, .lst ys] => .ok (.v .non, zipP xs ys) M1
  | _ => .bad
theorem fi_zip (A : Amb Z X W N sc fs k) {elts : List Expr} {kk : Nat} {tpos p pos : Pos} {e e2 : Expr} {f : Sm (List PV)} (hm : X.mg ("zip" : Str) = none) (ha : FL X E W [e, e2] f) (hg : sc.names.lookup ("zip" : Str) = some .globalImplicit := by rfl)
    (hs : starEach [e, e2] X.env = (false, eval e X.env) :: starEach [e2] X.env := by rfl) (hpl : (backTo pos (starEach [e2] X.env)).any (·.1) = false := by rfl) : FI X E W (.Tuple elts kk tpos) (.Call (.Name "zip" p) [e, e2] [] pos) (srcZip f) := by
  refine ⟨PI.weak (RZ.pi_zipA (A.gl hg) hm ha.fa.pe hs hpl) ?_⟩
  rintro s H Q ⟨G, M, R, h⟩
  refine ⟨G, M, R, h.bnd.imp fun G1 M1 H1 ps V1 R1 q us rr => ?_⟩
  split at q
  · rename_i xs ys
    obtain ⟨u, ws, rfl, r1, r2⟩ := RepVs.cons_iff.mp rr
    obtain ⟨w, ws2, rfl, r3, r4⟩ := RepVs.cons_iff.mp r2
    rw [RepVs.nil_iff.mp r4]
    simp only [RepV] at r1 r3
    obtain ⟨a, us1, rfl, f1, g1⟩ := r1
    obtain ⟨b, us2, rfl, f2, g2⟩ := r3
    refine ⟨a, b, us1, us2, rfl, .inr ⟨f1.sq, f2.sq, OutP.now q R1 _ (wk_zipT (X := X) (by rw [g1.length]; exact f1.1) (fun G' M' s' H' R' x => ⟨us1, (f1.mono x).sq, RepVs.mono x _ _ g1⟩) (fun G' M' s' H' R' x => ⟨us2, (f2.mono x).sq, RepVs.mono x _ _ g2⟩) rfl)⟩⟩
  · rename_i xs ys
    obtain ⟨u, ws, rfl, r1, r2⟩ := RepVs.cons_iff.mp rr
    obtain ⟨w, ws2, rfl, r3, r4⟩ := RepVs.cons_iff.mp r2
    rw [RepVs.nil_iff.mp r4]
    simp only [RepV] at r1 r3
    obtain ⟨a, us1, rfl, ⟨z1, f1, f1'⟩, g1⟩ := r1
    obtain ⟨b, us2, rfl, ⟨z2, f2, f2'⟩, g2⟩ := r3
    refine ⟨a, b, us1, us2, rfl, .inl ⟨.inl f1', .inl f2', OutP.now q R1 _ (wk_zipL (X := X) (by rw [g1.length]; exact z1) (fun G' M' s' H' R' x => ⟨us1, .inl (x.rd a _ f1 trivial f1'), RepVs.mono x _ _ g1⟩) (fun G' M' s' H' R' x => ⟨us2, .inl (x.rd b _ f2 trivial f2'), RepVs.mono x _ _ g2⟩) rfl)⟩⟩
  · exact q.elim
theorem srcZip_ns {f : Sm (List PV)} : NoSlot (srcZip f) := by
  refine ⟨fun M a M' h => ?_⟩
  simp only [srcZip] at h
  cases hf : f M with
  | exn c M1 => rw [hf] at h; cases h
  | bad => rw [hf] at h; cases h
  | ok e M1 =>
    rw [hf] at h
    simp only [Res.bnd] at h
    split at h <;> first | (cases h; rfl) | cases h
/-- what is never reached -/
@[simp] def sBad : Ss := fun _ => .bad
theorem fs_bad {st : Stmt} : FS X E W st sBad := ⟨⟨fun pins s σ H D I q => by
  obtain ⟨G, M, R, h⟩ := q
  exact h.elim⟩⟩
end
end HF

end
section
set_option Elab.async false
set_option linter.all false
set_option maxRecDepth 20000
set_option autoImplicit false
/-! HF35: a new thing handed on by its address. -/
namespace HF
open PySem PySem.Spec PyProof.Rows L2
theorem Evo.celled {s : L2.St} {G0 G : Gh} {M0 M : Mem} {H0 H : Hp} (x : Evo s G0 M0 H0 G M H) {p : Addr} {o : PO} (h : H0 p = none) : Evo s G0 M0 H0 ⟨G.F, G.al ++ [p]⟩ ⟨M.r, M.h ++ [o]⟩ H := by
  have e2 : Ext G H ⟨G.F, G.al ++ [p]⟩ H := ⟨fun _ h => h, fun _ _ _ _ h => h, fun r b h => by
    show (G.al ++ [p])[r]? = some b
    rw [List.getElem?_append_left (List.getElem?_eq_some_iff.mp h).1]; exact h, fun _ _ _ _ h => h⟩
  refine ⟨x.ext.trans e2, fun a u e n f ow nt => ?_, x.own, x.dom⟩
  obtain ⟨h1, h2, h3⟩ := x.keep a u e n f ow nt
  refine ⟨h1, fun z => ?_, h3⟩
  rcases List.mem_append.mp z with z | z
  · exact h2 z
  · simp at z; subst z; rw [h] at e; cases e
section
variable {X : Cx} {E : Ent} {W : WX} {N : List Str} {sc : Scope} {fs : Str → Bool} {k : Nat} {Z : Wd}
@[simp] def toC1 (e : EV) (M : Mem) : Res PV := match e with
  | .v p => .ok p M
  | .fr o => .ok (.ref M.h.length) ⟨M.r, M.h ++ [o]⟩
  | .sl _ => .bad
@[simp] def toC (f : Sm EV) : Sm PV := fun M => (f M).bnd toC1
theorem FE.toC {e : Expr} {f : Sm EV} (h : FE X E W e f) : FP X E W e (HF.toC f) := by
  refine ⟨PE.weak h.pe ?_⟩
  rintro s H Q ⟨G, M, R, h⟩
  refine ⟨G, M, R, ?_⟩
  simp only [HF.toC] at h
  generalize f M = q at h
  cases q with
  | ok ev M1 =>
    intro G1 H1 V1 R1 u ru
    simp only [Res.bnd] at h
    cases ev with
    | v p => exact h G1 H1 V1 R1 u ru
    | fr o =>
      obtain ⟨a, w, rfl, h1, ro, n, nf, nl, no, z⟩ := ru
      obtain ⟨R2, x2⟩ := R1.cellNew h1 ro n nf nl no
      have lenE := R1.hp.len
      refine h _ _ (V1.celled z) R2 (.ref a) ?_
      simp only [RepV]
      exact ⟨a, rfl, by rw [lenE]; simp⟩
    | sl i => exact h.elim
  | exn c M1 => exact h
  | bad => exact h
end
end HF

end
section
set_option Elab.async false
set_option linter.all false
set_option maxRecDepth 20000
set_option autoImplicit false
/-! HF36: max(list, default=d). -/
namespace HF
open PySem PySem.Spec PyProof.Rows L2
open Sem (wp)
section
variable {prog : Program} {w : World} {A : Around} {R : Result → Shared → Prop} {I : Addr} {fp wr : List Addr} {n : Nat} {P : Nat → Value → Prop} {St : Nat → Heap → Prop} {kw : List (Str × Value)}
theorem code_max_loopK (W : Walks prog w A.in1 I fp wr n P St) (bt : Nat → Nat → Bool) (hcmp : CmpOf prog w A.in1 .Gt P bt) (S : Addr) (hSf : S ∉ fp) :
    ∀ (k j : Nat) (s : Shared) (vb : Value) (c : Nat), n - (j + 1) = k → j + 1 ≤ n → St (j + 1) s.heap → P (argBest bt j) vb →
    s.heap.get? S = some { cls := .type "list", dict := none, data := .seq #[vb, vb] c, slots := #[] } →
    (∀ v h' tk, P (argBest bt (n - 1)) v → (∀ b o, b ∉ wr → b ≠ S → s.heap.get? b = some o → h'.get? b = some o) → R (.ok (.ret v)) { s with heap := h', toks := tk }) →
    codeAny (model prog w) A (.builtin "max.loop" ⟨[.ref I, .none, .ref S], kw⟩) R s := by
  have hSw : S ∉ wr := fun h => hSf (W.sub _ h)
  have hname : (toString "max" ++ toString ".loop" : String) = "max.loop" := by decide
  intro k
  induction k with
  | zero =>
    intro j s vb c hk hj hst hPb hS hR
    have hin : j + 1 = n := by omega
    refine codeAny_builtin PySem.F.entry_max_loop ?_
    rw [Around.under_plainId PySem.F.plain_max_loop _]
    show wpAny _ A.in1 (seqItems? (.ref S) >>= _) _ _ s
    refine wpAny_bind (wpAny_seqItems hS rfl ?_)
    show wpAny _ A.in1 (tryCatch (pyNext (.ref I)) _ >>= _) _ _ s
    refine wpAny_bind (wpAny_tryCatch (W.done s _ _ (hin ▸ hst) fun h' tk hk' => ?_))
    have hS' := hk' S _ hSw hS
    show wpAny _ A.in1 (updateSeq S (fun _ => #[]) >>= _) _ _ _
    refine wpAny_bind ?_
    refine wpAny_updateSeq hS' rfl (wpAny_bind (wpAny_letGo (wpAny_pure ?_)))
    refine hR vb _ tk (by rw [← hin]; exact hPb) fun b o hbw hbS e => (Heap.get?_update_other _ _ (Ne.symm hbS)).trans (hk' b o hbw e)
  | succ k ih =>
    intro j s vb c hk hj hst hPb hS hR
    have hlt : j + 1 < n := by omega
    refine codeAny_builtin PySem.F.entry_max_loop ?_
    rw [Around.under_plainId PySem.F.plain_max_loop _]
    show wpAny _ A.in1 (seqItems? (.ref S) >>= _) _ _ s
    refine wpAny_bind (wpAny_seqItems hS rfl ?_)
    show wpAny _ A.in1 (tryCatch (pyNext (.ref I)) _ >>= _) _ _ s
    refine wpAny_bind (wpAny_tryCatch (W.item (j + 1) s _ _ hlt hst fun v h' tk hP hst' hk' => ?_))
    have hS' := hk' S _ hSw hS
    show wpAny _ A.in1 (tryCatch (holding [v, v] (richCompare .Gt v vb >>= _)) _ >>= _) _ _ _
    refine wpAny_bind (wpAny_tryCatch (wpAny_holding (wpAny_bind (hcmp (j + 1) (argBest bt j) v vb _ _ _ hP hPb ?_))))
    refine wpAny_bind (wpAny_holding (wpAny_truthy_bool ?_))
    refine wpAny_bind (wpAny_letGo (wpAny_pure ?_))
    cases hb : bt (j + 1) (argBest bt j) with
    | true =>
      simp only [if_true]
      refine wpAny_bind ?_
      refine wpAny_updateSeq hS' rfl (wpAny_bind (wpAny_letGo ?_))
      rw [hname]
      refine wpAny_pure ⟨plainId_quiet PySem.F.plain_max_loop _, ih (j + 1) _ v _ (by omega) hlt (W.frame _ _ _ hst' fun b hbf o e => ?_) (by simp only [argBest, hb, if_true]; exact hP) (Heap.get?_update_self _ hS' rfl)
        fun v' h'' tk'' hP' hk'' => ?_⟩
      · exact (Heap.get?_update_other _ _ (fun h : S = b => hSf (by rw [h]; exact hbf))).trans e
      · exact hR v' h'' tk'' hP' fun b o hbw hbS e => hk'' b o hbw hbS ((Heap.get?_update_other _ _ (Ne.symm hbS)).trans (hk' b o hbw e))
    | false =>
      simp only [Bool.false_eq_true, if_false]
      refine wpAny_bind (wpAny_letGo ?_)
      rw [hname]
      refine wpAny_pure ⟨plainId_quiet PySem.F.plain_max_loop _, ih (j + 1) _ vb c (by omega) hlt hst' (by simp only [argBest, hb, Bool.false_eq_true, if_false]; exact hPb) hS' fun v' h'' tk'' hP' hk'' => ?_⟩
      exact hR v' h'' tk'' hP' fun b o hbw hbS e => hk'' b o hbw hbS (hk' b o hbw e)
theorem code_max_firstK (W : Walks prog w A.in1 I fp wr n P St) (bt : Nat → Nat → Bool) (hcmp : CmpOf prog w A.in1 .Gt P bt) (S : Addr) (hSf : S ∉ fp) (hn : 0 < n) {s : Shared} {c : Nat} (hst : St 0 s.heap)
    (hS : s.heap.get? S = some { cls := .type "list", dict := none, data := .seq #[] c, slots := #[] })
    (hR : ∀ v h' tk, P (argBest bt (n - 1)) v → (∀ b o, b ∉ wr → b ≠ S → s.heap.get? b = some o → h'.get? b = some o) → R (.ok (.ret v)) { s with heap := h', toks := tk }) :
    codeAny (model prog w) A (.builtin "max.loop" ⟨[.ref I, .none, .ref S], kw⟩) R s := by
  have hSw : S ∉ wr := fun h => hSf (W.sub _ h)
  have hname : (toString "max" ++ toString ".loop" : String) = "max.loop" := by decide
  refine codeAny_builtin PySem.F.entry_max_loop ?_
  rw [Around.under_plainId PySem.F.plain_max_loop _]
  show wpAny _ A.in1 (seqItems? (.ref S) >>= _) _ _ s
  refine wpAny_bind (wpAny_seqItems hS rfl ?_)
  show wpAny _ A.in1 (tryCatch (pyNext (.ref I)) _ >>= _) _ _ s
  refine wpAny_bind (wpAny_tryCatch (W.item 0 s _ _ hn hst fun v h' tk hP hst' hk' => ?_))
  have hS' := hk' S _ hSw hS
  show wpAny _ A.in1 (updateSeq S (fun _ => #[v, v]) >>= _) _ _ _
  refine wpAny_bind ?_
  refine wpAny_updateSeq hS' rfl ?_
  rw [hname]
  refine wpAny_pure ⟨plainId_quiet PySem.F.plain_max_loop _, code_max_loopK W bt hcmp S hSf _ 0 _ v _ rfl hn (W.frame _ _ _ hst' fun b hbf o e => ?_) hP (Heap.get?_update_self _ hS' rfl) fun v' h'' tk'' hP' hk'' => ?_⟩
  · exact (Heap.get?_update_other _ _ (fun h : S = b => hSf (by rw [h]; exact hbf))).trans e
  · exact hR v' h'' tk'' hP' fun b o hbw hbS e => hk'' b o hbw hbS ((Heap.get?_update_other _ _ (Ne.symm hbS)).trans (hk' b o hbw e))
/-- none: the default -/
theorem code_max_noneK (W : Walks prog w A.in1 I fp wr 0 P St) (S : Addr) (hSf : S ∉ fp) {x : Str} {d : Value} {s : Shared} {c : Nat} (hst : St 0 s.heap)
    (hS : s.heap.get? S = some { cls := .type "list", dict := none, data := .seq #[] c, slots := #[] })
    (hR : ∀ h' tk, (∀ b o, b ∉ wr → b ≠ S → s.heap.get? b = some o → h'.get? b = some o) → R (.ok (.ret d)) { s with heap := h', toks := tk }) :
    codeAny (model prog w) A (.builtin "max.loop" ⟨[.ref I, .none, .ref S], [(x, d)]⟩) R s := by
  have hSw : S ∉ wr := fun h => hSf (W.sub _ h)
  refine codeAny_builtin PySem.F.entry_max_loop ?_
  rw [Around.under_plainId PySem.F.plain_max_loop _]
  show wpAny _ A.in1 (seqItems? (.ref S) >>= _) _ _ s
  refine wpAny_bind (wpAny_seqItems hS rfl ?_)
  show wpAny _ A.in1 (tryCatch (pyNext (.ref I)) _ >>= _) _ _ s
  refine wpAny_bind (wpAny_tryCatch (W.done s _ _ hst fun h' tk hk' => ?_))
  show wpAny _ A.in1 (rule _ >>= _) _ _ _
  exact wpAny_bind (wpAny_rule (wpAny_pure (hR h' tk fun b o hbw _ e => hk' b o hbw e)))
end
theorem args_maxD (a d : Value) : argsOk "max" ⟨[a], [(Str.ofString "default", d)]⟩ := by unfold argsOk; kernel_rfl
section
variable {prog : Program} {w : World} {A : Around} {E : Value → Shared → Prop} {s : Shared}
theorem call_tree_kw {id : String} {b : Builtin} {args : List Value} {kw : List (Str × Value)} {Q : Value → Shared → Prop} (hk : builtinKind id = none) (hp : plainId id = true)
    (hb : entryFor table id = some b) (ha : argsOk id ⟨args, kw⟩)
    (hc : wpAny (model prog w) A.in1 (b ⟨args, kw⟩) (fun fin s' => match fin with
      | .done f => (match (Except.ok f : Result) with | .ok (.ret v) => Q v s' | .ok _ => False | .error e => E e s')
      | .again c' => c'.quiet = true ∧ codeAny (model prog w) A c' (fun r s' => match r with | .ok (.ret v) => Q v s' | .ok _ => False | .error e => E e s') s') E s) :
    wpAny (model prog w) A (call (.builtin id) args kw) Q E s := by
  refine wpAny_call (codeAny_call_builtin hp hb ?_)
  simp only [checkBuiltinCall, hk]
  cases hsig : Manifest.signature? id with
  | none => exact wpAny_pure hc
  | some sig =>
    have ha' : Bind.checkArgs id sig ⟨args, kw⟩ = pure () := by simpa only [argsOk, hsig] using ha
    simp only [ha']
    exact wpAny_pure hc
theorem call_maxD_walk {x d : Value} {Q : Value → Shared → Prop}
    (h : wpAny (model prog w) A.in1 (pyIter x) (fun it s₂ => ∃ I fp wr n P St bt, it = .ref I ∧ Walks prog w A.in1 I fp wr n P St ∧ St 0 s₂.heap ∧ (∀ b ∈ fp, b < s₂.heap.objs.size) ∧ CmpOf prog w A.in1 .Gt P bt ∧
      (0 < n → ∀ v h' tk, P (argBest bt (n - 1)) v → (∀ b o, b ∉ wr → s₂.heap.get? b = some o → h'.get? b = some o) → Q v { s₂ with heap := h', toks := tk }) ∧
      (n = 0 → ∀ h' tk, (∀ b o, b ∉ wr → s₂.heap.get? b = some o → h'.get? b = some o) → Q d { s₂ with heap := h', toks := tk })) E s) :
    wpAny (model prog w) A (call (.builtin "max") [x] [(Str.ofString "default", d)]) Q E s := by
  have hname : (toString "max" ++ toString ".loop" : String) = "max.loop" := by decide
  refine call_tree_kw PySem.F.kind_max PySem.F.plain_max PySem.F.entry_max (args_maxD _ _) ?_
  show wpAny _ A.in1 (Builtin.Builtins.bindParams "max" ["key", "default"] 0 ⟨[], [(Str.ofString "default", d)]⟩ >>= _) _ _ s
  refine wpAny_bind (wpAny_of_eq (show Builtin.Builtins.bindParams "max" ["key", "default"] 0 ⟨[], [(Str.ofString "default", d)]⟩ = pure [none, some d] from rfl) ?_)
  refine wpAny_bind (wpAny_pure ?_)
  refine wpAny_bind (wpAny_mono h (fun it s₂ h₂ => ?_) fun _ _ e => e)
  obtain ⟨I, fp, wr, n, P, St, bt, rfl, W, hst, hfp, hcmp, hQ, hQ0⟩ := h₂
  refine wpAny_bind (wpAny_newObj_type ?_)
  have hSf : s₂.heap.objs.size ∉ fp := fun hm => Nat.lt_irrefl _ (hfp _ hm)
  rw [hname]
  by_cases hn : 0 < n
  · refine wpAny_pure ⟨plainId_quiet PySem.F.plain_max_loop _, code_max_firstK W bt hcmp s₂.heap.objs.size hSf hn (W.frame _ _ _ hst fun b _ o e => Heap.get?_push_of_some _ e) (Heap.get?_push_size _ rfl) fun v h' tk hP hk => ?_⟩
    exact hQ hn v h' tk hP fun b o hbw e => hk b o hbw (Nat.ne_of_lt (Heap.lt_size e)) (Heap.get?_push_of_some _ e)
  · have h0 : n = 0 := by omega
    subst h0
    refine wpAny_pure ⟨plainId_quiet PySem.F.plain_max_loop _, code_max_noneK W s₂.heap.objs.size hSf (W.frame _ _ _ hst fun b _ o e => Heap.get?_push_of_some _ e) (Heap.get?_push_size _ rfl) fun h' tk hk => ?_⟩
    exact hQ0 rfl h' tk fun b o hbw e => hk b o hbw (Nat.ne_of_lt (Heap.lt_size e)) (Heap.get?_push_of_some _ e)
end
section
variable {prog : Program} {w : World} {A : Around} {E : Value → Shared → Prop} {s : Shared} {l : Addr} {its : List Value} {ns : List Int}
theorem max_rawD {d : Value} {Q : Value → Shared → Prop} (hh : A.handled = none) (hl : s.heap.IsList l its.toArray) (hi : IntsAre its ns)
    (h : 0 < ns.length → ∀ h' tk M t', (∀ b o, s.heap.get? b = some o → h'.get? b = some o) → M ∈ ns → (∀ a, a ∈ ns → a ≤ M) → Q (.int M t') { s with heap := h', toks := tk })
    (h0 : ns = [] → ∀ h' tk, (∀ b o, s.heap.get? b = some o → h'.get? b = some o) → Q d { s with heap := h', toks := tk }) : wpAny (model prog w) A (call (.builtin "max") [.ref l] [(Str.ofString "default", d)]) Q E s := by
  obtain ⟨xs, e⟩ := hi.allInts.items
  have hn : numsOf (intItems xs).toList = ns := by rw [← e]; exact hi.numsOf
  rw [nums_intItems] at hn
  subst hn
  rw [e] at hl
  refine call_maxD_walk (iter_intList hl fun s₂ e st hfp hlI => ?_)
  subst e
  refine ⟨_, _, _, _, _, _, _, rfl, Walks.list (A := A.in1) hh _ l hlI (intItems xs), st, hfp, CmpOf.ints_gt (numAt xs) (fun _ _ => intItems_at), fun hsz v h' tk hP hk => ?_, fun hz h' tk hk => ?_⟩
  · have hsz : 0 < xs.size := by simpa [intItems] using hsz
    have hv : (intItems xs)[argBest (fun i j => decide (numAt xs i > numAt xs j)) (xs.size - 1)]? = some v := by simpa [intItems] using hP
    obtain ⟨t, rfl⟩ := intItems_at hv
    obtain ⟨h1, h2⟩ := argBest_gt (numAt xs) (xs.size - 1)
    refine h (by simpa using hsz) h' tk _ t (old_kept hk) ?_ fun a ha => ?_
    · rw [numAt_eq]; exact PySem.getD_mem (by rw [List.length_map, Array.length_toList]; omega)
    · obtain ⟨j, hj, rfl⟩ := mem_getD ha
      rw [List.length_map, Array.length_toList] at hj
      rw [← numAt_eq]; exact h2 j (by omega)
  · have hsz : xs.size = 0 := by simpa [intItems] using hz
    exact h0 (by simp [List.map_eq_nil_iff, Array.toList_eq_nil_iff, Array.size_eq_zero_iff.mp hsz]) h' tk (old_kept hk)
end
section
variable {X : Cx} {E : Ent} {W : WX} {N : List Str} {sc : Scope} {fs : Str → Bool} {k : Nat} {Z : Wd}
def rMaxD (K : PySem.W.Frag) (d : Int) : List V → List V → Hp → VK → Prop := fun vs zs H Q => ∃ (a : Addr) (ns : List Int), vs = [V.ref a] ∧ zs = [V.int d] ∧ SqL K H a (ns.map V.int) ∧ (ns = [] → Q (.int d) H) ∧ (0 < ns.length → ∀ m, m ∈ ns → (∀ b, b ∈ ns → b ≤ m) → Q (.int m) H)
theorem cr_maxDef {d : Int} (hc : X.calm = true) : CallRK X (.builtin "max") [Str.ofString "default"] (rMaxD X.K d) := by
  intro pins s σ H vs zs us ws Q I r rz h
  obtain ⟨a, ns, rfl, rfl, hs, q0, q⟩ := h
  obtain ⟨its, rv, hl, _⟩ := I.list hs
  obtain rfl := Vals.ref1 r
  obtain ⟨w1, rfl, e1⟩ := vals1 rz
  have e1' : ∃ t, w1 = Value.int d t := e1
  obtain ⟨t1, rfl⟩ := e1'
  exact max_rawD (I.ok.hd hc) hl.isList rv.ints (fun hne h' tk m t' hk h1 h2 => ⟨.int _, H, I.kept hk, ⟨_, rfl⟩, q hne m h1 h2⟩) fun hz h' tk hk => ⟨.int d, H, I.kept hk, ⟨_, rfl⟩, q0 hz⟩
@[simp] def opMaxD (d : Int) : Op1 := fun x M => match (asLst M x).bind asInts with
  | some [] => some (.v (.int d))
  | some (n :: ns) => some (.v (.int (maxOf (n :: ns))))
  | _ => none
theorem opMaxD_ok {d : Int} : Op1Ok X (fun u => rMaxD X.K d [u] [V.int d]) (opMaxD d) := by
  intro E s G M H H0 x u ev Q R dd rx e q
  simp only [opMaxD] at e
  cases e1 : asLst M x with
  | none => rw [e1] at e; cases e
  | some xs =>
    rw [e1] at e
    simp only [Option.bind_some] at e
    split at e
    · rename_i e2
      cases e
      obtain ⟨a, us, rfl, ha, ra, za⟩ := lst_of R rx e1
      have eu := asInts_rep e2 ra
      subst eu
      exact ⟨a, [], rfl, rfl, ha, fun _ => q G H _ (Evo.refl _ _ _ _) R repV_int, fun h => by simp at h⟩
    · rename_i n ns e2
      cases e
      obtain ⟨a, us, rfl, ha, ra, za⟩ := lst_of R rx e1
      have eu := asInts_rep e2 ra
      subst eu
      refine ⟨a, n :: ns, rfl, rfl, ha, fun h => by simp at h, fun _ m hm hb => ?_⟩
      obtain ⟨h1, h2⟩ := maxOf_mem (ns := n :: ns) (by simp)
      have em : m = maxOf (n :: ns) := Int.le_antisymm (h2 m hm) (hb _ h1)
      exact q G H _ (Evo.refl _ _ _ _) R (by rw [em]; exact repV_int)
    · cases e
theorem fe_maxD (A : Amb Z X W N sc fs k) {d : Int} {e : Expr} {f : Sm EV} {p pos p2 kp : Pos} {j : Nat} (hm : Z.mg ("max" : Str) = none) (he : FE X E W e f) (hg : sc.names.lookup ("max" : Str) = some .globalImplicit := by rfl) (h1 : starEach [e] X.env = (false, eval e X.env) :: starEach [] X.env := by rfl)
    (h2 : backTo pos (starEach [e] X.env) = (false, eval e X.env) :: backTo pos (starEach [] X.env) := by rfl) (h3 : (backTo pos (starEach [e] X.env)).any (·.1) = false := by rfl) :
    FE X E W (.Call (.Name "max" p) [e] [⟨some "default", .Constant (.int d) j p2, kp⟩] pos) (e1 (opMaxD d) f) :=
  ⟨PE.weak (pe_callBK (cr_maxDef A.calm) (A.gl hg) (A.no hm) PyProof.Rows.boot_max (pa_cons he.pe pa_nil h1) (pk_cons pe_int pk_nil) (by decide) (by decide) h2 h3) fun _ _ _ h => tE_op1 opMaxD_ok h⟩
end
end HF

end
section
set_option Elab.async false
set_option linter.all false
set_option maxRecDepth 20000
set_option autoImplicit false
/-! HF37: d.clear(); a dict held by address that is lent to an expression as a value. -/
namespace HF
open PySem PySem.Spec PyProof.Rows L2
@[simp] def eClear (f : Sm EV) : Sm EV := fun M => (f M).bnd fun x M1 => match mutAt M1 x with
  | some (.dct _ _) => .ok (.v .non) (mutPut x (.dct [] []) M1)
  | _ => .bad
def noOwn : Option LV → Bool
  | some (.own _) => false
  | _ => true
mutual
/-- no address and no dict in a value -/
def cleanV : PV → Bool
  | .tup xs => cleanVs xs
  | .lst xs => cleanVs xs
  | .rol xs => cleanVs xs
  | .dct _ _ => false
  | .ref _ => false
  | .exc _ => false
  | _ => true
def cleanVs : List PV → Bool
  | [] => true
  | x :: xs => cleanV x && cleanVs xs
end
def cleanO : PO → Bool
  | .lst xs => cleanVs xs
  | .dct _ xs => cleanVs xs
  | .ins _ _ xs => cleanVs xs
mutual
/-- all addresses in a value are below r -/
def refsLt (r : Nat) : PV → Bool
  | .tup xs => refsLts r xs
  | .lst xs => refsLts r xs
  | .rol xs => refsLts r xs
  | .dct _ xs => refsLts r xs
  | .ref j => decide (j < r)
  | .exc _ => false
  | _ => true
def refsLts (r : Nat) : List PV → Bool
  | [] => true
  | x :: xs => refsLt r x && refsLts r xs
end
def slotLt (r : Nat) : Option LV → Bool
  | some (.v p) => refsLt r p
  | _ => true
def keepIx (js : List Nat) (l : List (Option LV)) : List (Option LV) := l.mapIdx fun j x => if j ∈ js then x else none
def snapIn (i : Nat) (js : List Nat) (M : Mem) : Option (Nat × List Key × List PV) := match slotAt M i with
  | some (.v (.ref r)) => match cellAt M r with
    | some (.dct ks xs) => if decide (r + 1 = M.h.length) && M.r.all noOwn && M.h.dropLast.all cleanO && (keepIx js M.r).all (slotLt r) && refsLts r xs then some (r, ks, xs) else none
    | _ => none
  | _ => none
def eSnap (i : Nat) (js : List Nat) (f : Sm EV) : Sm EV := fun M => match snapIn i js M with
  | some (r, ks, xs) => match f ⟨(keepIx js M.r).set i (some (.v (.dct ks xs))), M.h.dropLast⟩ with
    | .ok (.v (.bl b)) M' => if M'.h.all cleanO && decide (M'.h.length = r) then .ok (.v (.bl b)) ⟨M.r, M'.h ++ [.dct ks xs]⟩ else .bad
    | _ => .bad
  | none => .bad
section
variable {X : Cx} {E : Ent} {W : WX} {N : List Str} {sc : Scope} {fs : Str → Bool} {k : Nat} {Z : Wd}
theorem fe_clear {o : Expr} {f : Sm EV} {apos cpos : Pos} (ho : FE X E W o f) (hbase : attributeBase o "clear" X.env (eval o X.env) = eval o X.env := by rfl) (hline : (apos.endLine == cpos.line) = true := by rfl) : FE X E W (.Call (.Attribute o "clear" apos) [] [] cpos) (eClear f) := by
  refine ⟨PE.weak (pe_dclear ho.pe hbase hline) ?_⟩
  rintro s H Q ⟨G, M, R, h⟩
  refine tE_one R h fun G1 M1 H1 x u V1 R1 rx h1 => ?_
  split at h1
  · rename_i ks xs em
    obtain ⟨a, w, rfl, h3, ⟨kvs, rfl, z, hk, rr⟩, nf, wr⟩ := mut_ok R1 rx em
    obtain ⟨R3, V3⟩ := wr (.dct [] []) (.dK []) ⟨[], rfl, Nat.zero_le _, rfl, RepVs.nil⟩
    exact ⟨.inr (.inr (.inl ⟨rfl, .inl ⟨kvs, h3⟩⟩)), a, kvs, rfl, rfl, h3, h1 G1 _ V3 R3 .non rfl⟩
  · exact h1.elim
/-- lists and tuples that are values stay where they are -/
structure Seq2 (G : Gh) (H : Hp) (G' : Gh) (H' : Hp) : Prop where
  l : ∀ a us, G.F a → Rd H a (.lst us) → G'.F a ∧ Rd H' a (.lst us)
  t : ∀ a us, G.F a → Rd H a (.tup us) → G'.F a ∧ Rd H' a (.tup us)
section
variable {K : PySem.W.Frag} {G G' : Gh} {H H' : Hp}
mutual
theorem RepV.clean (x : Seq2 G H G' H') : ∀ (p : PV) (v : V), cleanV p = true → RepV K G H p v → RepV K G' H' p v
  | .non, v, _, h => h
  | .bl b, v, _, h => h
  | .int i, v, _, h => h
  | .str s, v, _, h => h
  | .tup xs, v, l, h => by
    simp only [RepV] at h ⊢
    simp only [cleanV] at l
    obtain ⟨a, us, e, f, r⟩ := h
    exact ⟨a, us, e, ⟨f.1, f.2.imp (fun ⟨f, r⟩ => x.t a us f r) id⟩, RepVs.clean x xs us l r⟩
  | .lst xs, v, l, h => by
    simp only [RepV] at h ⊢
    simp only [cleanV] at l
    obtain ⟨a, us, e, ⟨f0, f1, f2⟩, r⟩ := h
    exact ⟨a, us, e, ⟨f0, x.l a us f1 f2⟩, RepVs.clean x xs us l r⟩
  | .rol xs, v, l, h => by
    simp only [RepV] at h ⊢
    simp only [cleanV] at l
    obtain ⟨a, us, e, f, r⟩ := h
    exact ⟨a, us, e, ⟨f.1, f.2.imp (fun ⟨f, r⟩ => x.l a us f r) id⟩, RepVs.clean x xs us l r⟩
  | .dct ks xs, v, l, h => by simp only [cleanV] at l; cases l
  | .ref j, v, l, h => by simp only [cleanV] at l; cases l
  | .con a, v, _, h => h
  | .exc c, v, l, h => by simp only [cleanV] at l; cases l
  | .fn c, v, _, h => by simp only [RepV] at h ⊢; exact h
theorem RepVs.clean (x : Seq2 G H G' H') : ∀ (ps : List PV) (vs : List V), cleanVs ps = true → RepVs K G H ps vs → RepVs K G' H' ps vs
  | [], vs, _, h => h
  | p :: ps, vs, l, h => by
    simp only [RepVs] at h ⊢
    simp only [cleanVs, Bool.and_eq_true] at l
    obtain ⟨u, ws, e, r, rs⟩ := h
    exact ⟨u, ws, e, RepV.clean x p u l.1 r, RepVs.clean x ps ws l.2 rs⟩
end
theorem RepO.clean (x : Seq2 G H G' H') {o : PO} {u : HO} (f : cleanO o = true) (r : RepO K G H o u) : RepO K G' H' o u := by
  cases o with
  | lst xs => obtain ⟨us, e, z, r⟩ := r; exact ⟨us, e, z, RepVs.clean x _ _ f r⟩
  | dct ks xs => obtain ⟨us, e, z, k, r⟩ := r; exact ⟨us, e, z, k, RepVs.clean x _ _ f r⟩
  | ins C ns xs => obtain ⟨dx, us, e, k, r⟩ := r; exact ⟨dx, us, e, k, RepVs.clean x _ _ f r⟩
end
theorem snapIn_some {i : Nat} {js : List Nat} {M : Mem} {r : Nat} {ks : List Key} {xs : List PV} (h : snapIn i js M = some (r, ks, xs)) :
    M.r[i]? = some (some (.v (.ref r))) ∧ M.h[r]? = some (.dct ks xs) ∧ r + 1 = M.h.length ∧ (∀ (j : Nat) (o : PO), M.r[j]? ≠ some (some (.own o))) ∧ (∀ o ∈ M.h.dropLast, cleanO o = true) ∧ (∀ x ∈ keepIx js M.r, slotLt r x = true) ∧ refsLts r xs = true := by
  unfold snapIn at h
  split at h
  · rename_i r' e1
    split at h
    · rename_i ks' xs' e2
      split at h
      · rename_i c
        cases h
        simp only [Bool.and_eq_true, decide_eq_true_eq, List.all_eq_true] at c
        refine ⟨slotAt_some e1, e2, c.1.1.1.1, fun j o e => ?_, c.1.1.2, c.1.2, c.2⟩
        have := c.1.1.1.2 _ (List.mem_of_getElem? e)
        cases this
      · cases h
    · cases h
  · cases h
/-- from one state to one whose ghosts have fewer cells -/
structure Less (r : Nat) (G : Gh) (H : Hp) (G' : Gh) (H' : Hp) : Prop where
  f : ∀ a, G.F a → G'.F a
  rd : ∀ a u, G.F a → Plain u → Rd H a u → Rd H' a u
  al : ∀ (j : Nat) (a : Addr), j < r → G.al[j]? = some a → G'.al[j]? = some a
section
variable {K : PySem.W.Frag} {G G' : Gh} {H H' : Hp} {r : Nat}
mutual
theorem RepV.less (x : Less r G H G' H') : ∀ (p : PV) (v : V), refsLt r p = true → RepV K G H p v → RepV K G' H' p v
  | .non, v, _, h => h
  | .bl b, v, _, h => h
  | .int i, v, _, h => h
  | .str s, v, _, h => h
  | .tup xs, v, l, h => by
    simp only [RepV] at h ⊢
    simp only [refsLt] at l
    obtain ⟨a, us, e, f, r⟩ := h
    exact ⟨a, us, e, ⟨f.1, f.2.imp (fun ⟨f, r⟩ => ⟨x.f a f, x.rd a _ f trivial r⟩) id⟩, RepVs.less x xs us l r⟩
  | .lst xs, v, l, h => by
    simp only [RepV] at h ⊢
    simp only [refsLt] at l
    obtain ⟨a, us, e, ⟨f0, f1, f2⟩, r⟩ := h
    exact ⟨a, us, e, ⟨f0, x.f a f1, x.rd a _ f1 trivial f2⟩, RepVs.less x xs us l r⟩
  | .rol xs, v, l, h => by
    simp only [RepV] at h ⊢
    simp only [refsLt] at l
    obtain ⟨a, us, e, f, r⟩ := h
    exact ⟨a, us, e, ⟨f.1, f.2.imp (fun ⟨f, r⟩ => ⟨x.f a f, x.rd a _ f trivial r⟩) id⟩, RepVs.less x xs us l r⟩
  | .dct ks xs, v, l, h => by
    simp only [RepV] at h ⊢
    simp only [refsLt] at l
    obtain ⟨a, us, e, ⟨f1, f2⟩, z, k, r⟩ := h
    exact ⟨a, us, e, ⟨x.f a f1, x.rd a _ f1 trivial f2⟩, z, k, RepVs.less x xs _ l r⟩
  | .ref j, v, l, h => by
    simp only [RepV] at h ⊢
    simp only [refsLt, decide_eq_true_eq] at l
    obtain ⟨a, e, q⟩ := h
    exact ⟨a, e, x.al j a l q⟩
  | .con a, v, _, h => h
  | .exc c, v, l, h => by simp only [refsLt] at l; cases l
  | .fn c, v, _, h => by simp only [RepV] at h ⊢; exact h
theorem RepVs.less (x : Less r G H G' H') : ∀ (ps : List PV) (vs : List V), refsLts r ps = true → RepVs K G H ps vs → RepVs K G' H' ps vs
  | [], vs, _, h => h
  | p :: ps, vs, l, h => by
    simp only [RepVs] at h ⊢
    simp only [refsLts, Bool.and_eq_true] at l
    obtain ⟨u, ws, e, r, rs⟩ := h
    exact ⟨u, ws, e, RepV.less x p u l.1 r, RepVs.less x ps ws l.2 rs⟩
end
end
theorem fe_snap {e : Expr} {f : Sm EV} {i : Nat} {js : List Nat} (hT : E.T = Z.T) (he : ∀ E' : Ent, E'.T = Z.T → FE X E' W e f) : FE X E W e (eSnap i js f) := by
  have hp : PE X e (fun s H Q => ∃ E' : Ent, E'.T = Z.T ∧ tE X E' W f s H Q) := ⟨fun pins s σ H Q I ⟨E', hE, h⟩ => (he E' hE).pe.run pins s σ H Q I h⟩
  refine ⟨PE.weak (pe_lock hp) ?_⟩
  rintro s H Q ⟨G, M, R, h⟩
  unfold eSnap at h
  cases es : snapIn i js M with
  | none => rw [es] at h; exact h.elim
  | some z =>
  obtain ⟨r, ks, xs⟩ := z
  rw [es] at h
  simp only at h
  obtain ⟨q1, q2, q3, q4, q5, q6, q7⟩ := snapIn_some es
  obtain ⟨u0, hu0, ru0⟩ := R.slot i _ q1
  simp only [RepV] at ru0
  obtain ⟨a, rfl, ha⟩ := ru0
  obtain ⟨nfa, w, hw, kvs, rfl, zk, hk, rr⟩ := R.hp.obj r a _ ha q2
  refine ⟨a, _, hw, trivial, fun od => ?_⟩
  have gl : G.al.length = r + 1 := by rw [← R.hp.len]; exact q3.symm
  have gal : G.al = G.al.dropLast ++ [a] := by
    have hne : G.al ≠ [] := fun z => by rw [z] at gl; simp at gl
    have l := List.dropLast_concat_getLast hne
    have : G.al.getLast hne = a := by
      rw [List.getLast_eq_getElem]
      have := (List.getElem?_eq_some_iff.mp ha).2
      have e : G.al.length - 1 = r := by omega
      simp only [e]; exact this
    rw [this] at l
    exact l.symm
  have nda : a ∉ G.al.dropLast := by
    have := R.hp.nd
    rw [gal, List.nodup_append] at this
    exact fun z => this.2.2 a z a (by simp) rfl
  have al_of : ∀ b, b ∈ G.al.dropLast → b ∈ G.al := fun b hb => by rw [gal]; exact List.mem_append_left _ hb
  have of_al : ∀ b, b ∈ G.al → b ≠ a → b ∈ G.al.dropLast := fun b hb n => by
    rw [gal] at hb
    rcases List.mem_append.mp hb with hb | hb
    · exact hb
    · simp at hb; exact absurd hb n
  -- the lent state
  obtain ⟨G1, hG1⟩ : ∃ G1 : Gh, G1 = ⟨fun b => G.F b ∨ b = a, G.al.dropLast⟩ := ⟨_, rfl⟩
  obtain ⟨H1, hH1⟩ : ∃ H1 : Hp, H1 = upd H a (.frz od (.dK kvs)) := ⟨_, rfl⟩
  have g1f : ∀ b, G1.F b ↔ G.F b ∨ b = a := fun b => by rw [hG1]
  have g1a : G1.al = G.al.dropLast := by rw [hG1]
  rw [← hH1]
  have h1a : H1 a = some (.frz od (.dK kvs)) := by rw [hH1]; exact L2.upd_same
  have h1n : ∀ b, b ≠ a → H1 b = H b := fun b n => by rw [hH1]; exact L2.upd_ne n
  have T1 : TabsOk Z.T G1 H1 := by
    refine (hT ▸ R.post.tabs E.ok : TabsOk Z.T G H).step fun b u e nn n m => ?_
    have ne : b ≠ a := fun z => n (by rw [z, gal]; simp)
    exact ⟨by rw [h1n b ne]; exact e, fun z => n (al_of b (g1a ▸ z)), fun z => ((g1f b).mp z).elim m ne⟩
  have nd1 : G1.al.Nodup := by
    have := R.hp.nd
    rw [gal, List.nodup_append] at this
    rw [g1a]; exact this.1
  have dom1 : ∀ b, H1 b = none → H b = none := fun b e => by
    by_cases z : b = a
    · rw [z, h1a] at e; cases e
    · rwa [h1n b z] at e
  have fne : ∀ b, G.F b → b ≠ a := fun b f z => nfa (z ▸ f)
  have less : Less r G H G1 H1 := ⟨fun b f => (g1f b).mpr (.inl f), fun b u f _ rd => by
    have n := fne b f
    rcases rd with rd | ⟨o, rd⟩
    · exact .inl (by rw [h1n b n]; exact rd)
    · exact .inr ⟨o, by rw [h1n b n]; exact rd⟩, fun j b l e => by
    rw [g1a]
    rw [gal] at e
    rwa [List.getElem?_append_left (by simp; omega)] at e⟩
  have seq1 : Seq2 G H G1 H1 := ⟨fun b us f r => ⟨less.f b f, less.rd b _ f trivial r⟩, fun b us f r => ⟨less.f b f, less.rd b _ f trivial r⟩⟩
  have hp1 : HpRep X.K G1 M.h.dropLast H1 := by
    refine ⟨fun b f => ?_, nd1, by rw [g1a, List.length_dropLast, List.length_dropLast, R.hp.len], fun j b o e e' => ?_⟩
    · rcases (g1f b).mp f with f | rfl
      · obtain ⟨u, e, n⟩ := R.hp.fdom b f
        exact ⟨u, by rw [h1n b (fne b f)]; exact e, n⟩
      · exact ⟨_, h1a, ⟨fun φ (z : HO.frz od (.dK kvs) = .ext φ) => (nomatch z), fun ps (z : HO.frz od (.dK kvs) = .tbl ps) => (nomatch z)⟩⟩
    · rw [g1a] at e
      have mb := List.mem_of_getElem? e
      have ne : b ≠ a := fun z => nda (z ▸ mb)
      have e3 : G.al[j]? = some b := by
        rw [gal, List.getElem?_append_left (List.getElem?_eq_some_iff.mp e).1]; exact e
      have e4 : M.h[j]? = some o := by
        rw [List.getElem?_dropLast] at e'
        split at e'
        · exact e'
        · cases e'
      obtain ⟨f, u, q, ro⟩ := R.hp.obj j b o e3 e4
      exact ⟨fun z => ((g1f b).mp z).elim f ne, u, by rw [h1n b ne]; exact q, RepO.clean seq1 (q5 o (List.mem_of_getElem? e')) ro⟩
  obtain ⟨M1, hM1⟩ : ∃ M1 : Mem, M1 = ⟨(keepIx js M.r).set i (some (.v (.dct ks xs))), M.h.dropLast⟩ := ⟨_, rfl⟩
  have il : i < M.r.length := (List.getElem?_eq_some_iff.mp q1).1
  have kl : (keepIx js M.r).length = M.r.length := by unfold keepIx; simp
  have kat : ∀ (j : Nat) (x : LV), (keepIx js M.r)[j]? = some (some x) → M.r[j]? = some (some x) := fun j x e => by
    unfold keepIx at e
    rw [List.getElem?_mapIdx] at e
    cases z : M.r[j]? with
    | none => rw [z] at e; cases e
    | some y =>
      rw [z] at e
      simp only [Option.map_some, Option.some.injEq] at e
      split at e
      · rw [e]
      · cases e
  have R1 : StRep X.K ⟨G1, H1, Z.T, T1⟩ G1 M1 s H1 := by
    refine ⟨Post.refl _ _ _, by rw [hM1]; exact hp1, by rw [hM1, List.length_set, kl]; exact R.len, fun j p e => ?_, fun j o e => ?_, fun j j' o o' b e _ _ _ => ?_⟩
    · rw [hM1] at e
      simp only [List.getElem?_set] at e
      split at e
      · rename_i ij
        subst ij
        rw [if_pos (by rw [kl]; exact il)] at e
        cases e
        refine ⟨.ref a, hu0, ?_⟩
        simp only [RepV]
        exact ⟨a, kvs, rfl, ⟨(g1f a).mpr (.inr rfl), .inr ⟨od, h1a⟩⟩, zk, hk, RepVs.less less xs _ q7 rr⟩
      · have e' := kat j _ e
        obtain ⟨u, h1, h2⟩ := R.slot j p e'
        exact ⟨u, h1, RepV.less less p u (q6 _ (List.mem_of_getElem? e)) h2⟩
    · rw [hM1] at e
      simp only [List.getElem?_set] at e
      split at e
      · split at e <;> cases e
      · exact absurd (kat j _ e) (q4 j o)
    · rw [hM1] at e
      simp only [List.getElem?_set] at e
      split at e
      · split at e <;> cases e
      · exact absurd (kat j _ e) (q4 j o)
  refine ⟨⟨G1, H1, Z.T, T1⟩, rfl, G1, M1, R1, ?_⟩
  rw [← hM1] at h
  cases ef : f M1 with
  | bad => rw [ef] at h; exact h.elim
  | exn c M' => rw [ef] at h; exact h.elim
  | ok ev M' =>
  rw [ef] at h
  intro G' H' V' R' u ru
  obtain ⟨b, rfl⟩ : ∃ b, ev = .v (.bl b) := by
    cases ev with
    | v p => cases p <;> first | exact h.elim | exact ⟨_, rfl⟩
    | fr o => exact h.elim
    | sl j => exact h.elim
  simp only at h
  split at h
  · rename_i cc
    simp only [Bool.and_eq_true, decide_eq_true_eq, List.all_eq_true] at cc
    obtain ⟨c1, c2⟩ := cc
    have P := R'.post
    have e2 : H' a = some (.frz od (.dK kvs)) := P.fz a od _ ((g1f a).mpr (.inr rfl)) h1a
    refine ⟨e2, ?_⟩
    obtain ⟨H2, hH2⟩ : ∃ H2 : Hp, H2 = upd H' a (.dK kvs) := ⟨_, rfl⟩
    have h2a : H2 a = some (.dK kvs) := by rw [hH2]; exact L2.upd_same
    have h2n : ∀ b, b ≠ a → H2 b = H' b := fun b n => by rw [hH2]; exact L2.upd_ne n
    obtain ⟨G2, hG2⟩ : ∃ G2 : Gh, G2 = ⟨fun b => G'.F b ∧ b ≠ a, G.al⟩ := ⟨_, rfl⟩
    have g2f : ∀ b, G2.F b ↔ G'.F b ∧ b ≠ a := fun b => by rw [hG2]
    have g2a : G2.al = G.al := by rw [hG2]
    have al' : G'.al = G1.al := by
      obtain ⟨l, e, _⟩ := P.al
      have l1 : G'.al.length = r := by rw [← R'.hp.len]; exact c2
      have l2 : G1.al.length = r := by rw [g1a, List.length_dropLast, gl]; rfl
      have e : G'.al = G1.al ++ l := e
      have : l = [] := by
        have := congrArg List.length e
        rw [List.length_append, l1, l2] at this
        exact List.eq_nil_of_length_eq_zero (by omega)
      rw [e, this, List.append_nil]
    have dom2 : ∀ b, H2 b = none → H b = none := fun b e => by
      by_cases z : b = a
      · rw [z, h2a] at e; cases e
      · rw [h2n b z] at e
        exact dom1 b (P.dom b e)
    have ext2 : Ext G H G2 H2 := by
      refine ⟨fun b f => (g2f b).mpr ⟨P.f b ((g1f b).mpr (.inl f)), fne b f⟩, fun b u f pl rd => ?_, fun j b e => by rw [g2a]; exact e, fun b o u f e => ?_⟩
      · have n := fne b f
        have rd2 := P.rd b u ((g1f b).mpr (.inl f)) pl (less.rd b u f pl rd)
        rcases rd2 with rd2 | ⟨o, rd2⟩
        · exact .inl (by rw [h2n b n]; exact rd2)
        · exact .inr ⟨o, by rw [h2n b n]; exact rd2⟩
      · have n := fne b f
        rw [h2n b n]
        exact P.fz b o u ((g1f b).mpr (.inl f)) (show H1 b = _ by rw [h1n b n]; exact e)
    have keep2 : ∀ b u, H b = some u → b ∉ G.al → ¬ G.F b → (∀ ps, u ≠ .tbl ps) → H2 b = some u ∧ b ∉ G2.al ∧ ¬ G2.F b := fun b u e n m nt => by
      have ne : b ≠ a := fun z => n (by rw [z, gal]; simp)
      have n1 : b ∉ G1.al := fun z => n (al_of b (g1a ▸ z))
      have m1 : ¬ G1.F b := fun z => ((g1f b).mp z).elim m ne
      have k1 := P.keep b u (show H1 b = _ by rw [h1n b ne]; exact e) n1 m1 nt
      exact ⟨by rw [h2n b ne]; exact k1, by rw [g2a]; exact n, fun z => P.nof (by rw [h1n b ne]; exact e : H1 b = some u) m1 ((g2f b).mp z).1⟩
    have noA : ∀ (b : Addr) (u : HO), (∀ kv, u ≠ .dK kv) → (∀ o u', u ≠ .frz o u') → Rd H' b u → b ≠ a := fun b u n1 n2 rd z => by
      rw [z] at rd
      rcases rd with rd | ⟨o, rd⟩
      · rw [e2] at rd; cases rd; exact n2 _ _ rfl
      · rw [e2] at rd; cases rd; exact n1 _ rfl
    have rd2n : ∀ (b : Addr) (u : HO), b ≠ a → Rd H' b u → Rd H2 b u := fun b u n rd => by
      rcases rd with rd | ⟨o, rd⟩
      · exact .inl (by rw [h2n b n]; exact rd)
      · exact .inr ⟨o, by rw [h2n b n]; exact rd⟩
    have seq2 : Seq2 G' H' G2 H2 := ⟨fun b us f r => by
        have n := noA b (.lst us) (fun _ z => nomatch z) (fun _ _ z => nomatch z) r
        exact ⟨(g2f b).mpr ⟨f, n⟩, rd2n b _ n r⟩, fun b us f r => by
        have n := noA b (.tup us) (fun _ z => nomatch z) (fun _ _ z => nomatch z) r
        exact ⟨(g2f b).mpr ⟨f, n⟩, rd2n b _ n r⟩⟩
    have fnew2 : ∀ b, G2.F b → G.F b ∨ H b = none := fun b f => by
      obtain ⟨f, n⟩ := (g2f b).mp f
      rcases P.fnew b f with f | f
      · rcases (g1f b).mp f with f | f
        · exact .inl f
        · exact absurd f n
      · exact .inr (dom1 b f)
    have tabs2 : TabsOk Z.T G2 H2 := by
      refine (P.tabs T1).step fun b u e nn n m => ?_
      have ne : b ≠ a := fun z => by
        rw [z, e2] at e
        cases e
        exact nn ⟨fun φ (z : HO.frz od (.dK kvs) = .ext φ) => (nomatch z), fun ps (z : HO.frz od (.dK kvs) = .tbl ps) => (nomatch z)⟩
      refine ⟨by rw [h2n b ne]; exact e, fun z => n ?_, fun z => m ((g2f b).mp z).1⟩
      rw [al', g1a]
      exact of_al b (g2a ▸ z) ne
    have nda2 : ∀ (j : Nat) (b : Addr), G.al[j]? = some b → j < r → b ≠ a ∧ G'.al[j]? = some b := fun j b e l => by
      have e' := less.al j b l e
      rw [al']
      refine ⟨fun z => nda ?_, e'⟩
      rw [← z, ← g1a]
      exact List.mem_of_getElem? e'
    have R2 : StRep X.K E G2 ⟨M.r, M'.h ++ [.dct ks xs]⟩ s H2 := by
      refine ⟨⟨fun b f => ext2.f b (R.post.f b f), fun b f => ?_, ?_, fun b u e n m nt => ?_, fun t => ?_, fun b u f pl rd => ext2.rd b u (R.post.f b f) pl (R.post.rd b u f pl rd), fun b e => R.post.dom b (dom2 b e), fun b o u f e => ext2.fz b o u (R.post.f b f) (R.post.fz b o u f e)⟩, ⟨fun b f => ?_, by rw [g2a]; exact R.hp.nd, by rw [g2a, gl, List.length_append, c2]; rfl, fun j b o e e' => ?_⟩, R.len, fun j p e => ?_, fun j o e => absurd e (q4 j o), fun j j' o o' b e => absurd e (q4 j o)⟩
      · rcases fnew2 b f with f | f
        · exact R.post.fnew b f
        · exact .inr (R.post.dom b f)
      · rw [g2a]; exact R.post.al
      · exact (keep2 b u (R.post.keep b u e n m nt) (R.post.noal e n) (R.post.nof e m) nt).1
      · rw [hT]; exact tabs2
      · obtain ⟨f, n⟩ := (g2f b).mp f
        obtain ⟨u, e, nx⟩ := R'.hp.fdom b f
        exact ⟨u, by rw [h2n b n]; exact e, nx⟩
      · rw [g2a] at e
        have jl : j < r + 1 := by rw [← gl]; exact (List.getElem?_eq_some_iff.mp e).1
        by_cases jr : j = r
        · subst jr
          rw [ha] at e
          cases e
          have : (M'.h ++ [PO.dct ks xs])[j]? = some (.dct ks xs) := by rw [List.getElem?_append_right (by omega)]; simp [c2]
          rw [this] at e'
          cases e'
          exact ⟨fun z => ((g2f a).mp z).2 rfl, _, h2a, kvs, rfl, zk, hk, RepVs.mono ext2 _ _ rr⟩
        · obtain ⟨ne, e3⟩ := nda2 j b e (by omega)
          rw [List.getElem?_append_left (by omega)] at e'
          obtain ⟨f, u, q, ro⟩ := R'.hp.obj j b o e3 e'
          exact ⟨fun z => f ((g2f b).mp z).1, u, by rw [h2n b ne]; exact q, RepO.clean seq2 (c1 o (List.mem_of_getElem? e')) ro⟩
      · obtain ⟨u, h1, h2⟩ := R.slot j p e
        exact ⟨u, h1, RepV.mono ext2 p u h2⟩
    have V2 : Evo s G M H G2 ⟨M.r, M'.h ++ [.dct ks xs]⟩ H2 := ⟨ext2, fun b u e n f _ nt => keep2 b u e n f nt, fun b z => z, dom2⟩
    rw [← hH2]
    exact h G2 H2 V2 R2 u ru
  · exact h.elim
/-- a dict told by address, the newest cell, becomes a value -/
def eFz (f : Sm EV) : Sm EV := fun M => match f M with
  | .ok (.v (.ref r)) M' => match cellAt M' r with
    | some (.dct ks xs) => if decide (r + 1 = M'.h.length) && decide (M.h.length ≤ r) && M.r.all noOwn && M'.h.dropLast.all cleanO && refsLts r xs then .ok (.v (.dct ks xs)) ⟨M.r, M'.h.dropLast⟩ else .bad
    | _ => .bad
  | .exn c M' => .exn c M'
  | _ => .bad
theorem fe_fz {e : Expr} {f : Sm EV} (he : FE X E W e f) : FE X E W e (eFz f) := by
  refine ⟨PE.weak he.pe ?_⟩
  rintro s H Q ⟨G, M, R, h⟩
  refine ⟨G, M, R, ?_⟩
  unfold eFz at h
  cases ef : f M with
  | bad => rw [ef] at h; exact h.elim
  | exn c M' => rw [ef] at h; exact h
  | ok ev M' =>
  rw [ef] at h
  intro G' H' V' R' u ru
  obtain ⟨r, rfl⟩ : ∃ r, ev = .v (.ref r) := by
    cases ev with
    | v p => cases p <;> first | exact h.elim | exact ⟨_, rfl⟩
    | fr o => exact h.elim
    | sl j => exact h.elim
  simp only at h
  split at h
  · rename_i ks xs q2
    split at h
    · rename_i cc
      simp only [Bool.and_eq_true, decide_eq_true_eq, List.all_eq_true] at cc
      obtain ⟨⟨⟨⟨q3, q8⟩, q4⟩, q5⟩, q7⟩ := cc
      have no : ∀ (j : Nat) (o : PO), M.r[j]? ≠ some (some (.own o)) := fun j o e => by
        have := q4 _ (List.mem_of_getElem? e)
        cases this
      have ru0 : RepV X.K G' H' (.ref r) u := ru
      simp only [RepV] at ru0
      obtain ⟨a, rfl, ha⟩ := ru0
      obtain ⟨nfa, w, hw, kvs, rfl, zk, hk, rr⟩ := R'.hp.obj r a _ ha q2
      have gl : G'.al.length = r + 1 := by rw [← R'.hp.len]; exact q3.symm
      have gal : G'.al = G'.al.dropLast ++ [a] := by
        have hne : G'.al ≠ [] := fun z => by rw [z] at gl; simp at gl
        have l := List.dropLast_concat_getLast hne
        have : G'.al.getLast hne = a := by
          rw [List.getLast_eq_getElem]
          have := (List.getElem?_eq_some_iff.mp ha).2
          have e : G'.al.length - 1 = r := by omega
          simp only [e]; exact this
        rw [this] at l
        exact l.symm
      have nd0 := R'.hp.nd
      rw [gal, List.nodup_append] at nd0
      have nda : a ∉ G'.al.dropLast := fun z => nd0.2.2 a z a (by simp) rfl
      have al_of : ∀ b, b ∈ G'.al.dropLast → b ∈ G'.al := fun b hb => by rw [gal]; exact List.mem_append_left _ hb
      have drop_at : ∀ (j : Nat) (b : Addr), j < r → G'.al[j]? = some b → G'.al.dropLast[j]? = some b := fun j b l e => by
        rw [gal] at e
        rwa [List.getElem?_append_left (by simp; omega)] at e
      obtain ⟨G2, hG2⟩ : ∃ G2 : Gh, G2 = ⟨fun b => G'.F b ∨ b = a, G'.al.dropLast⟩ := ⟨_, rfl⟩
      have g2f : ∀ b, G2.F b ↔ G'.F b ∨ b = a := fun b => by rw [hG2]
      have g2a : G2.al = G'.al.dropLast := by rw [hG2]
      have Gl : G.al.length ≤ r := by rw [← R.hp.len]; exact q8
      have ext2 : Ext G H G2 H' := ⟨fun b f => (g2f b).mpr (.inl (V'.ext.f b f)), fun b u f pl rd => V'.ext.rd b u f pl rd, fun j b e => by
        rw [g2a]
        exact drop_at j b (Nat.lt_of_lt_of_le (List.getElem?_eq_some_iff.mp e).1 Gl) (V'.ext.al j b e), fun b o u f e => V'.ext.fz b o u f e⟩
      obtain ⟨l, el, hl⟩ := R'.post.al
      obtain ⟨l0, el0, _⟩ := R.post.al
      have l1 : E.G.al.length ≤ r := by
        have := congrArg List.length el0
        rw [List.length_append] at this
        omega
      have lne : l ≠ [] := fun z => by
        rw [z, List.append_nil] at el
        have := congrArg List.length el
        omega
      have eld : G'.al.dropLast = E.G.al ++ l.dropLast := by rw [el, List.dropLast_append_of_ne_nil lne]
      have al2 : a ∈ l := by
        have e : (E.G.al ++ l)[r]? = some a := by rw [← el]; exact ha
        rw [List.getElem?_append_right l1] at e
        exact List.mem_of_getElem? e
      have eha : E.H a = none := hl a al2
      have less : Less r G' H' G2 H' := ⟨fun b f => (g2f b).mpr (.inl f), fun _ _ _ _ rd => rd, fun j b l e => by rw [g2a]; exact drop_at j b l e⟩
      have seq : Seq2 G' H' G2 H' := ⟨fun b us f r => ⟨(g2f b).mpr (.inl f), r⟩, fun b us f r => ⟨(g2f b).mpr (.inl f), r⟩⟩
      have nxa : NoX (HO.dK kvs) := ⟨fun φ (z : HO.dK kvs = .ext φ) => (nomatch z), fun ps (z : HO.dK kvs = .tbl ps) => (nomatch z)⟩
      have R2 : StRep X.K E G2 ⟨M.r, M'.h.dropLast⟩ s H' := by
        refine ⟨⟨fun b f => (g2f b).mpr (.inl (R'.post.f b f)), fun b f => ?_, ⟨l.dropLast, by rw [g2a]; exact eld, fun b hb => hl b ((List.dropLast_sublist l).subset hb)⟩, R'.post.keep, fun t => (R'.post.tabs t).step fun b u e nn n m => ⟨e, fun z => n (al_of b (g2a ▸ z)), fun z => ((g2f b).mp z).elim m fun z => by rw [z, hw] at e; cases e; exact nn nxa⟩, R'.post.rd, R'.post.dom, R'.post.fz⟩, ⟨fun b f => ?_, by rw [g2a]; exact nd0.1, by rw [g2a, List.length_dropLast, List.length_dropLast, R'.hp.len], fun j b o e e' => ?_⟩, R.len, fun j p e => ?_, fun j o e => absurd e (no j o), fun j j' o o' b e => absurd e (no j o)⟩
        · rcases (g2f b).mp f with f | rfl
          · exact R'.post.fnew b f
          · exact .inr eha
        · rcases (g2f b).mp f with f | rfl
          · exact R'.hp.fdom b f
          · exact ⟨_, hw, nxa⟩
        · rw [g2a] at e
          have mb := List.mem_of_getElem? e
          have ne : b ≠ a := fun z => nda (z ▸ mb)
          have e3 : G'.al[j]? = some b := by
            rw [gal, List.getElem?_append_left (List.getElem?_eq_some_iff.mp e).1]; exact e
          have e4 : M'.h[j]? = some o := by
            rw [List.getElem?_dropLast] at e'
            split at e'
            · exact e'
            · cases e'
          obtain ⟨f, u, q, ro⟩ := R'.hp.obj j b o e3 e4
          exact ⟨fun z => ((g2f b).mp z).elim f ne, u, q, RepO.clean seq (q5 o (List.mem_of_getElem? e')) ro⟩
        · obtain ⟨u, h1, h2⟩ := R.slot j p e
          exact ⟨u, h1, RepV.mono ext2 p u h2⟩
      have V2 : Evo s G M H G2 ⟨M.r, M'.h.dropLast⟩ H' := ⟨ext2, fun b u e n f o nt => by
          obtain ⟨k1, k2, k3⟩ := V'.keep b u e n f o nt
          exact ⟨k1, fun z => k2 (al_of b (g2a ▸ z)), fun z => ((g2f b).mp z).elim k3 fun z => k2 (by rw [z, gal]; simp)⟩, fun b z => z, V'.dom⟩
      refine h G2 H' V2 R2 (.ref a) ?_
      show RepV X.K G2 H' (.dct ks xs) (.ref a)
      simp only [RepV]
      exact ⟨a, kvs, rfl, ⟨(g2f a).mpr (.inr rfl), .inl hw⟩, zk, hk, RepVs.less less xs _ q7 rr⟩
    · exact h.elim
  · exact h.elim
/-- a slot's own dict, lent to an expression as a value -/
def ownIn (i : Nat) (M : Mem) : Option (List Key × List PV) := match slotAt M i with
  | some (.own (.dct ks xs)) => some (ks, xs)
  | _ => none
def vOnly : Option LV → Option LV
  | some (.v p) => some (.v p)
  | _ => none
def keepV (js : List Nat) (l : List (Option LV)) : List (Option LV) := l.mapIdx fun j x => if j ∈ js then vOnly x else none
def eSnapO (i : Nat) (js : List Nat) (f : Sm EV) : Sm EV := fun M => match ownIn i M with
  | some (ks, xs) => match f ⟨(keepV js M.r).set i (some (.v (.dct ks xs))), M.h⟩ with
    | .ok (.v (.bl b)) M' => if M'.h.all cleanO then .ok (.v (.bl b)) ⟨M.r, M'.h⟩ else .bad
    | _ => .bad
  | none => .bad
theorem fe_snapO {e : Expr} {f : Sm EV} {i : Nat} {js : List Nat} (hT : E.T = Z.T) (he : ∀ E' : Ent, E'.T = Z.T → FE X E' W e f) : FE X E W e (eSnapO i js f) := by
  have hp : PE X e (fun s H Q => ∃ E' : Ent, E'.T = Z.T ∧ tE X E' W f s H Q) := ⟨fun pins s σ H Q I ⟨E', hE, h⟩ => (he E' hE).pe.run pins s σ H Q I h⟩
  refine ⟨PE.weak (pe_lock hp) ?_⟩
  rintro s H Q ⟨G, M, R, h⟩
  unfold eSnapO at h
  cases es : ownIn i M with
  | none => rw [es] at h; exact h.elim
  | some z =>
  obtain ⟨ks, xs⟩ := z
  rw [es] at h
  simp only at h
  have q1 : M.r[i]? = some (some (.own (.dct ks xs))) := by
    unfold ownIn at es
    split at es
    · rename_i e; cases es; exact slotAt_some e
    · cases es
  obtain ⟨a, w, hu0, hw, ⟨kvs, rfl, zk, hk, rr⟩, eha, nfa, nla⟩ := R.own i _ q1
  refine ⟨a, _, hw, trivial, fun od => ?_⟩
  obtain ⟨G1, hG1⟩ : ∃ G1 : Gh, G1 = ⟨fun b => G.F b ∨ b = a, G.al⟩ := ⟨_, rfl⟩
  obtain ⟨H1, hH1⟩ : ∃ H1 : Hp, H1 = upd H a (.frz od (.dK kvs)) := ⟨_, rfl⟩
  have g1f : ∀ b, G1.F b ↔ G.F b ∨ b = a := fun b => by rw [hG1]
  have g1a : G1.al = G.al := by rw [hG1]
  rw [← hH1]
  have h1a : H1 a = some (.frz od (.dK kvs)) := by rw [hH1]; exact L2.upd_same
  have h1n : ∀ b, b ≠ a → H1 b = H b := fun b n => by rw [hH1]; exact L2.upd_ne n
  have nxa : NoX (HO.dK kvs) := ⟨fun φ (z : HO.dK kvs = .ext φ) => (nomatch z), fun ps (z : HO.dK kvs = .tbl ps) => (nomatch z)⟩
  have nxf : NoX (HO.frz od (.dK kvs)) := ⟨fun φ (z : HO.frz od (.dK kvs) = .ext φ) => (nomatch z), fun ps (z : HO.frz od (.dK kvs) = .tbl ps) => (nomatch z)⟩
  have T1 : TabsOk Z.T G1 H1 := by
    refine (hT ▸ R.post.tabs E.ok : TabsOk Z.T G H).step fun b u e nn n m => ?_
    have ne : b ≠ a := fun z => by rw [z, hw] at e; cases e; exact nn nxa
    exact ⟨by rw [h1n b ne]; exact e, fun z => n (g1a ▸ z), fun z => ((g1f b).mp z).elim m ne⟩
  have fne : ∀ b, G.F b → b ≠ a := fun b f z => nfa (z ▸ f)
  have dom1 : ∀ b, H1 b = none → H b = none := fun b e => by
    by_cases z : b = a
    · rw [z, h1a] at e; cases e
    · rwa [h1n b z] at e
  have ext1 : Ext G H G1 H1 := ⟨fun b f => (g1f b).mpr (.inl f), fun b u f _ rd => by
    have n := fne b f
    rcases rd with rd | ⟨o, rd⟩
    · exact .inl (by rw [h1n b n]; exact rd)
    · exact .inr ⟨o, by rw [h1n b n]; exact rd⟩, fun j b e => by rw [g1a]; exact e, fun b o u f e => by rw [h1n b (fne b f)]; exact e⟩
  have lne : ∀ (j : Nat) (b : Addr), G.al[j]? = some b → b ≠ a := fun j b e z => nla (z ▸ List.mem_of_getElem? e)
  obtain ⟨M1, hM1⟩ : ∃ M1 : Mem, M1 = ⟨(keepV js M.r).set i (some (.v (.dct ks xs))), M.h⟩ := ⟨_, rfl⟩
  have il : i < M.r.length := (List.getElem?_eq_some_iff.mp q1).1
  have kl : (keepV js M.r).length = M.r.length := by unfold keepV; simp
  have kat : ∀ (j : Nat) (x : LV), (keepV js M.r)[j]? = some (some x) → M.r[j]? = some (some x) ∧ ∃ p, x = .v p := fun j x e => by
    unfold keepV at e
    rw [List.getElem?_mapIdx] at e
    cases z : M.r[j]? with
    | none => rw [z] at e; cases e
    | some y =>
      rw [z] at e
      simp only [Option.map_some, Option.some.injEq] at e
      split at e
      · cases y with
        | none => cases e
        | some y =>
          cases y with
          | v p => simp only [vOnly] at e; cases e; exact ⟨rfl, p, rfl⟩
          | own o => cases e
      · cases e
  have R1 : StRep X.K ⟨G1, H1, Z.T, T1⟩ G1 M1 s H1 := by
    refine ⟨Post.refl _ _ _, ⟨fun b f => ?_, by rw [g1a]; exact R.hp.nd, by rw [hM1, g1a]; exact R.hp.len, fun j b o e e' => ?_⟩, by rw [hM1, List.length_set, kl]; exact R.len, fun j p e => ?_, fun j o e => ?_, fun j j' o o' b e _ _ _ => ?_⟩
    · rcases (g1f b).mp f with f | rfl
      · obtain ⟨u, e, n⟩ := R.hp.fdom b f
        exact ⟨u, by rw [h1n b (fne b f)]; exact e, n⟩
      · exact ⟨_, h1a, nxf⟩
    · rw [g1a] at e
      rw [hM1] at e'
      obtain ⟨f, u, q, ro⟩ := R.hp.obj j b o e e'
      exact ⟨fun z => ((g1f b).mp z).elim f (lne j b e), u, by rw [h1n b (lne j b e)]; exact q, ro.mono ext1⟩
    · rw [hM1] at e
      simp only [List.getElem?_set] at e
      split at e
      · rename_i ij
        subst ij
        rw [if_pos (by rw [kl]; exact il)] at e
        cases e
        refine ⟨.ref a, hu0, ?_⟩
        simp only [RepV]
        exact ⟨a, kvs, rfl, ⟨(g1f a).mpr (.inr rfl), .inr ⟨od, h1a⟩⟩, zk, hk, RepVs.mono ext1 _ _ rr⟩
      · obtain ⟨u, h1, h2⟩ := R.slot j p (kat j _ e).1
        exact ⟨u, h1, RepV.mono ext1 p u h2⟩
    · rw [hM1] at e
      simp only [List.getElem?_set] at e
      split at e
      · split at e <;> cases e
      · obtain ⟨_, p, z⟩ := kat j _ e; cases z
    · rw [hM1] at e
      simp only [List.getElem?_set] at e
      split at e
      · split at e <;> cases e
      · obtain ⟨_, p, z⟩ := kat j _ e; cases z
  refine ⟨⟨G1, H1, Z.T, T1⟩, rfl, G1, M1, R1, ?_⟩
  rw [← hM1] at h
  cases ef : f M1 with
  | bad => rw [ef] at h; exact h.elim
  | exn c M' => rw [ef] at h; exact h.elim
  | ok ev M' =>
  rw [ef] at h
  intro G' H' V' R' u ru
  obtain ⟨b, rfl⟩ : ∃ b, ev = .v (.bl b) := by
    cases ev with
    | v p => cases p <;> first | exact h.elim | exact ⟨_, rfl⟩
    | fr o => exact h.elim
    | sl j => exact h.elim
  simp only at h
  split at h
  · rename_i cc
    simp only [List.all_eq_true] at cc
    have P := R'.post
    have ra2 : H' a = some (.frz od (.dK kvs)) := P.fz a od _ ((g1f a).mpr (.inr rfl)) h1a
    refine ⟨ra2, ?_⟩
    obtain ⟨H2, hH2⟩ : ∃ H2 : Hp, H2 = upd H' a (.dK kvs) := ⟨_, rfl⟩
    have h2a : H2 a = some (.dK kvs) := by rw [hH2]; exact L2.upd_same
    have h2n : ∀ b, b ≠ a → H2 b = H' b := fun b n => by rw [hH2]; exact L2.upd_ne n
    obtain ⟨G2, hG2⟩ : ∃ G2 : Gh, G2 = ⟨fun b => G'.F b ∧ b ≠ a, G'.al⟩ := ⟨_, rfl⟩
    have g2f : ∀ b, G2.F b ↔ G'.F b ∧ b ≠ a := fun b => by rw [hG2]
    have g2a : G2.al = G'.al := by rw [hG2]
    obtain ⟨l, el, hl⟩ := P.al
    have el : G'.al = G.al ++ l := by rw [← g1a]; exact el
    have nla2 : a ∉ G'.al := fun z => by
      rw [el] at z
      rcases List.mem_append.mp z with z | z
      · exact nla z
      · have := hl a z
        have this : H1 a = none := this
        rw [h1a] at this; cases this
    have dom2 : ∀ b, H2 b = none → H b = none := fun b e => by
      by_cases z : b = a
      · rw [z, h2a] at e; cases e
      · rw [h2n b z] at e
        exact dom1 b (P.dom b e)
    have ext2 : Ext G H G2 H2 := by
      refine ⟨fun b f => (g2f b).mpr ⟨P.f b ((g1f b).mpr (.inl f)), fne b f⟩, fun b u f pl rd => ?_, fun j b e => ?_, fun b o u f e => ?_⟩
      · have n := fne b f
        rcases P.rd b u ((g1f b).mpr (.inl f)) pl (ext1.rd b u f pl rd) with rd2 | ⟨o, rd2⟩
        · exact .inl (by rw [h2n b n]; exact rd2)
        · exact .inr ⟨o, by rw [h2n b n]; exact rd2⟩
      · rw [g2a, el, List.getElem?_append_left (List.getElem?_eq_some_iff.mp e).1]; exact e
      · rw [h2n b (fne b f)]
        exact P.fz b o u ((g1f b).mpr (.inl f)) (show H1 b = _ by rw [h1n b (fne b f)]; exact e)
    have keep2 : ∀ b u, b ≠ a → H b = some u → b ∉ G.al → ¬ G.F b → (∀ ps, u ≠ .tbl ps) → H2 b = some u ∧ b ∉ G2.al ∧ ¬ G2.F b := fun b u ne e n m nt => by
      have n1 : b ∉ G1.al := fun z => n (g1a ▸ z)
      have m1 : ¬ G1.F b := fun z => ((g1f b).mp z).elim m ne
      have e1 : H1 b = some u := by rw [h1n b ne]; exact e
      exact ⟨by rw [h2n b ne]; exact P.keep b u e1 n1 m1 nt, by rw [g2a]; exact P.noal (show H1 b = _ from e1) n1, fun z => P.nof (show H1 b = _ from e1) m1 ((g2f b).mp z).1⟩
    have fnew2 : ∀ b, G2.F b → G.F b ∨ H b = none := fun b f => by
      obtain ⟨f, n⟩ := (g2f b).mp f
      rcases P.fnew b f with f | f
      · rcases (g1f b).mp f with f | f
        · exact .inl f
        · exact absurd f n
      · exact .inr (dom1 b f)
    have tabs2 : TabsOk Z.T G2 H2 := by
      refine (P.tabs T1).step fun b u e nn n m => ?_
      have ne : b ≠ a := fun z => by rw [z, ra2] at e; cases e; exact nn nxf
      exact ⟨by rw [h2n b ne]; exact e, fun z => n (g2a ▸ z), fun z => m ((g2f b).mp z).1⟩
    have noA : ∀ (b : Addr) (u : HO), (∀ kv, u ≠ .dK kv) → (∀ o u', u ≠ .frz o u') → Rd H' b u → b ≠ a := fun b u n1 n2 rd z => by
      rw [z] at rd
      rcases rd with rd | ⟨o, rd⟩
      · rw [ra2] at rd; cases rd; exact n2 _ _ rfl
      · rw [ra2] at rd; cases rd; exact n1 _ rfl
    have rd2n : ∀ (b : Addr) (u : HO), b ≠ a → Rd H' b u → Rd H2 b u := fun b u n rd => by
      rcases rd with rd | ⟨o, rd⟩
      · exact .inl (by rw [h2n b n]; exact rd)
      · exact .inr ⟨o, by rw [h2n b n]; exact rd⟩
    have seq2 : Seq2 G' H' G2 H2 := ⟨fun b us f r => by
        have n := noA b (.lst us) (fun _ z => nomatch z) (fun _ _ z => nomatch z) r
        exact ⟨(g2f b).mpr ⟨f, n⟩, rd2n b _ n r⟩, fun b us f r => by
        have n := noA b (.tup us) (fun _ z => nomatch z) (fun _ _ z => nomatch z) r
        exact ⟨(g2f b).mpr ⟨f, n⟩, rd2n b _ n r⟩⟩
    have R2 : StRep X.K E G2 ⟨M.r, M'.h⟩ s H2 := by
      refine ⟨⟨fun b f => ext2.f b (R.post.f b f), fun b f => ?_, ?_, fun b u e n m nt => ?_, fun t => ?_, fun b u f pl rd => ext2.rd b u (R.post.f b f) pl (R.post.rd b u f pl rd), fun b e => R.post.dom b (dom2 b e), fun b o u f e => ext2.fz b o u (R.post.f b f) (R.post.fz b o u f e)⟩, ⟨fun b f => ?_, by rw [g2a]; exact R'.hp.nd, by rw [g2a]; exact R'.hp.len, fun j b o e e' => ?_⟩, R.len, fun j p e => ?_, fun j o e => ?_, R.sep⟩
      · rcases fnew2 b f with f | f
        · exact R.post.fnew b f
        · exact .inr (R.post.dom b f)
      · obtain ⟨l0, el0, hl0⟩ := R.post.al
        refine ⟨l0 ++ l, by rw [g2a, el, el0, List.append_assoc], fun b hb => ?_⟩
        rcases List.mem_append.mp hb with hb | hb
        · exact hl0 b hb
        · exact R.post.dom b (dom1 b (hl b hb))
      · have ne : b ≠ a := fun z => by rw [z, eha] at e; cases e
        exact (keep2 b u ne (R.post.keep b u e n m nt) (R.post.noal e n) (R.post.nof e m) nt).1
      · rw [hT]; exact tabs2
      · obtain ⟨f, n⟩ := (g2f b).mp f
        obtain ⟨u, e, nx⟩ := R'.hp.fdom b f
        exact ⟨u, by rw [h2n b n]; exact e, nx⟩
      · rw [g2a] at e
        have ne : b ≠ a := fun z => nla2 (z ▸ List.mem_of_getElem? e)
        obtain ⟨f, u, q, ro⟩ := R'.hp.obj j b o e e'
        exact ⟨fun z => f ((g2f b).mp z).1, u, by rw [h2n b ne]; exact q, RepO.clean seq2 (cc o (List.mem_of_getElem? e')) ro⟩
      · obtain ⟨u, h1, h2⟩ := R.slot j p e
        exact ⟨u, h1, RepV.mono ext2 p u h2⟩
      · obtain ⟨b, u, e1, e2, e3, e4, e5, e6⟩ := R.own j o e
        by_cases ij : b = a
        · subst ij
          rw [hw] at e2
          cases e2
          exact ⟨b, _, e1, h2a, e3.mono ext2, e4, fun z => ((g2f b).mp z).2 rfl, by rw [g2a]; exact nla2⟩
        · obtain ⟨k1, k2, k3⟩ := keep2 b u ij e2 e6 e5 e3.nox.2
          exact ⟨b, u, e1, k1, e3.mono ext2, e4, k3, k2⟩
    have V2 : Evo s G M H G2 ⟨M.r, M'.h⟩ H2 := ⟨ext2, fun b u e n f o nt => keep2 b u (fun z => o ⟨i, _, q1, by rw [z]; exact hu0⟩) e n f nt, fun b z => z, dom2⟩
    rw [← hH2]
    exact h G2 H2 V2 R2 u ru
  · exact h.elim
end
end HF

end
section
set_option Elab.async false
set_option linter.all false
set_option maxRecDepth 20000
set_option autoImplicit false
/-! HF40: defs handed on as values, and called by a parameter's name. -/
namespace HF
open PySem PySem.Spec PyProof.Rows L2
structure FnAt (Z : Wd) (x : Str) : Prop where
  ok : ∃ f, PySem.W.nsIn Z.K mainGlobals x = some (some (.ref f)) ∧ Z.mg x = some (.ref f)
theorem fnAt_mk {P : Program} {w : World} {K : PySem.W.Frag} {mg : Str → Option Value} {base h : Heap} {x : Str} {f : Addr} {T : List NdefX.NTab} (X : K.In h) (G : h.Ns mainGlobals mg) (a : PySem.W.nsIn K mainGlobals x = some (some (.ref f))) : FnAt ⟨P, w, K, mg, base, T⟩ x := ⟨f, a, PySem.W.mg_of X G a⟩
def fnIn : List (Str × Fn) → Str → Option Fn
  | [], _ => none
  | (x, φ) :: l, y => if x = y then some φ else fnIn l y
def eCallV (i : Nat) (tbl : List (Str × Fn)) (g : Sm (List PV)) : Sm EV := fun M => match slotAt M i with
  | some (.v (.fn y)) => match fnIn tbl y with
    | some φ => eCall φ [] g M
    | none => .bad
  | _ => .bad
structure TabOk (Z : Wd) (k : Nat) (tbl : List (Str × Fn)) : Prop where
  ok : ∀ y φ, fnIn tbl y = some φ → FnAt Z y ∧ Known Z k y [] φ
theorem tab_nil {Z : Wd} {k : Nat} : TabOk Z k [] := ⟨fun y φ h => by cases h⟩
theorem tab_cons {Z : Wd} {k : Nat} {x : Str} {φ : Fn} {tbl : List (Str × Fn)} (h : FnAt Z x) (hK : Known Z k x [] φ) (t : TabOk Z k tbl) : TabOk Z k ((x, φ) :: tbl) := ⟨fun y ψ e => by
  unfold fnIn at e
  split at e
  · rename_i q; cases e; subst q; exact ⟨h, hK⟩
  · exact t.ok y ψ e⟩
section
variable {X : Cx} {E : Ent} {W : WX} {N : List Str} {sc : Scope} {fs : Str → Bool} {k : Nat} {Z : Wd}
theorem pe_gfn {x : Str} {f : Addr} {pos : Pos} (hg : Gl X x) (hm : X.mg x = some (.ref f)) (hd : (x == ("__debug__" : Str)) = false) : PE X (.Name x pos) (tC (.ref f)) :=
  ⟨fun pins s σ H Q I h => ld_glob I hg hm ⟨.ref f, H, I, rfl, h⟩ hd⟩
theorem fe_fnv (A : Amb Z X W N sc fs k) {x : Str} {pos : Pos} (h : FnAt Z x) (hg : sc.names.lookup x = some .globalImplicit := by rfl) (hd : (x == ("__debug__" : Str)) = false := by decide) : FE X E W (.Name x pos) (eC (.fn x)) := by
  obtain ⟨f, h1, h2⟩ := h.ok
  obtain ⟨s1, s2, s3, s4, s5⟩ := A.same
  refine ⟨PE.weak (pe_gfn (A.gl hg) (by rw [s4]; exact h2) hd) ?_⟩
  rintro s H Q ⟨G, M, R, hh⟩
  refine OutP.now hh R (.ref f) ?_
  show RepV X.K G H (.fn x) (.ref f)
  simp only [RepV]
  exact ⟨f, rfl, by rw [s3]; exact h1⟩
theorem fe_callV (A : Amb Z X W N sc fs k) (hT : E.T = Z.T) {i : Nat} {x : Str} {tbl : List (Str × Fn)} {e : Expr} {es : List Expr} {p pos : Pos} {g : Sm (List PV)} (hN : N[i]? = some x) (hv : visB sc x = true) (tb : TabOk Z k tbl) (ha : FL X E W (e :: es) g)
    (hd : (x == ("__debug__" : Str)) = false := by decide) (hcd : (x == ("__classdict__" : Str)) = false := by decide)
    (he : starEach (e :: es) X.env = (false, eval e X.env) :: starEach es X.env := by rfl) (hpl : (backTo pos (starEach es X.env)).any (fun z => z.1) = false := by rfl) : FE X E W (.Call (.Name x p) (e :: es) [] pos) (eCallV i tbl g) := by
  obtain ⟨s1, s2, s3, s4, s5⟩ := A.same
  refine ⟨⟨fun pins s σ H Q I h => ?_⟩⟩
  obtain ⟨G, M, R, h⟩ := h
  unfold eCallV at h
  split at h
  · rename_i y ey
    split at h
    · rename_i φ eφ
      obtain ⟨⟨f0, n0, m0⟩, hK⟩ := tb.ok y φ eφ
      obtain ⟨f, fd, ps, dvs, dus, F, hm, hk, hb, hd', hr⟩ := hK.ok
      have ef : f0 = f := by rw [m0] at hm; cases hm; rfl
      subst ef
      rw [← s1, ← s2, ← s3, ← s4, ← s5] at F
      rw [← s3] at hk hb hr n0
      obtain ⟨u0, q1, q2⟩ := R.slot i _ (slotAt_some ey)
      have q2 : RepV X.K G H (.fn y) u0 := q2
      simp only [RepV] at q2
      obtain ⟨f1, rfl, n1⟩ := q2
      rw [n0] at n1
      cases n1
      refine wpAny_Call_Name_kw (thn ((pe_var (pos := p) (i := i) (by rw [A.hN]; exact hN) (by rw [A.hs]; exact vis_of hv) hd hcd).run pins s σ H (fun v H1 => v = .ref f0 ∧ H1 = H) I ⟨.ref f0, q1, rfl, rfl⟩) fun u sa ⟨v, Ha, Ia, ra, qa⟩ => ?_)
      obtain ⟨rfl, rfl⟩ := qa
      cases ra
      refine PySem.W.callWith_K (h₀ := X.base) I.ok.mod.kin hk (thn (ha.fa.pe.run pos pins sa σ _ (fun vs H1 => spOf Z.T X.K X.mg φ (vs ++ dvs) H1 Q (WE W σ)) Ia ?_) fun us sb ⟨vs, H1, I1, r, q⟩ => ⟨I1.kIn, run_fnD F A.room hb hd' A.tk I1 r q⟩) he hpl
      refine tL_one R h fun G1 M1 H1 ps us V1 R1 rr q => ?_
      refine ⟨G1, M1.h, ps ++ [], R1.hp, hT ▸ R1.post.tabs E.ok, rr.append (hr G1 H1), ?_⟩
      cases hφ : φ (ps ++ []) M1.h with
      | bad => rw [hφ] at q; exact q
      | exn c h' =>
        rw [hφ] at q
        intro G2 H2 C p2 r2 m
        obtain ⟨R3, V3⟩ := R1.called (hT ▸ p2) r2
        exact q G2 H2 C V3.ext R3 m
      | ok ev h' =>
        rw [hφ] at q
        intro G2 H2 u p2 r2 ru
        obtain ⟨R3, V3⟩ := R1.called (hT ▸ p2) r2
        cases ev with
        | v pv => exact q G2 H2 V3 R3 u ru
        | sl j => exact q.elim
        | fr o =>
          obtain ⟨a, w, rfl, h1, ro, hn, nf, nl⟩ := ru
          have no : ¬ OwnAt M1.r σ a := fun ⟨j, o2, e1, e2⟩ => by
            obtain ⟨b, w2, z1, z2, _⟩ := R1.own j o2 e1
            rw [e2] at z1; cases z1
            rw [hn] at z2; cases z2
          exact q G2 H2 V3 R3 _ ⟨a, w, rfl, h1, ro, R1.post.dom a hn, nf, nl, no, V1.dom a hn⟩
    · exact h.elim
  · exact h.elim
end
/-! ### a default that is None -/
section
open NdefX LamX
variable {P : Program} {w : World} {K : PySem.W.Frag} {mg : Str → Option Value} {base h : Heap} {T : List NTab} {x : Str} {st : Stmt} {ps : List Str} {f : Addr} {oc kV doc pm ct : Value} {od an : Option Addr} {osl : Array (Option Value)} {k : Nat} {Z : Wd}
theorem DefAtD.known_d1N {φ : Fn} (h : DefAtD Z x st ps [.non])
    (d : ∀ f fd, FunD Z.K x x (defArgs st) (defBody st) (defScope st) [.non] [] f fd → FnOk Z.P Z.w Z.K Z.mg Z.base (L2.CX Z.P Z.w) k f fd ps (spP (fun _ _ => True) Z.T Z.K Z.mg φ)) : Known Z k x [.non] φ := (h.knownPd (fun _ _ => repVs_non) d).known
theorem DefAtD.none_d1N (h : DefAtD Z x st ps [.non]) : Known Z k x [.non] (fun _ _ => .bad) := h.known_d1N fun f fd _ => spP_none
theorem defAtD_mkN {td : Addr} {cdv toc : Value} {tod : Option Addr} {tsl : Array (Option Value)} {tn : Nat} (X : K.In h) (G : h.Ns mainGlobals mg) (a : PySem.W.nsIn K mainGlobals x = some (some (.ref f)))
    (l : K.lookup f = some ⟨oc, od, .func (PySem.W.fnOf x x (defArgs st) (defBody st) (defScope st) (.ref td) kV doc pm an cdv ct), osl⟩) (lt : K.lookup td = some ⟨toc, tod, .seq #[.none] tn, tsl⟩)
    (c : PySem.W.codeIn K cdv x = true) (kp : PySem.W.keepIn K (.ref f) = true) (n : Nat) (hn : n + 1 = ps.length)
    (h0 : ∀ (T : Addr) (kV doc pm : Value) (an : Option Addr) (cdv ct : Value) (us its : List Value), us.length = n + 1 → its.length = ([.non] : List V).length → ∃ k, bindArgs (PySem.W.fnOf x x (defArgs st) (defBody st) (defScope st) (.ref T) kV doc pm an cdv ct) ⟨us, []⟩ = seqItems? (.ref T) >>= k ∧ k (some its.toArray) = pure (ps.zip (us ++ its.drop 1)))
    (h1 : ∀ (T : Addr) (kV doc pm : Value) (an : Option Addr) (cdv ct : Value) (us its : List Value), us.length = n → its.length = ([.non] : List V).length → ∃ k, bindArgs (PySem.W.fnOf x x (defArgs st) (defBody st) (defScope st) (.ref T) kV doc pm an cdv ct) ⟨us, []⟩ = seqItems? (.ref T) >>= k ∧ k (some its.toArray) = pure (ps.zip (us ++ its.drop 0))) :
    DefAtD ⟨P, w, K, mg, base, T⟩ x st ps [.non] := by
  have F : FunD K x x (defArgs st) (defBody st) (defScope st) [.non] [] f (PySem.W.fnOf x x (defArgs st) (defBody st) (defScope st) (.ref td) kV doc pm an cdv ct) :=
    ⟨⟨oc, od, .ref td, kV, doc, pm, an, cdv, ct, osl, rfl, l, c, .inr ⟨by simp, td, _, [.none], tn, rfl, lt, rfl, .cons rfl .nil⟩, .inl rfl⟩, kp⟩
  obtain ⟨d0, r0, b0⟩ := F.binds1 (ps := ps) (n + 1) 1 (by simp) (by simpa using hn) h0
  obtain ⟨d1, r1, b1⟩ := F.binds1 (ps := ps) n 0 (by simp) (by simpa using hn) h1
  cases r0
  exact ⟨f, _, F, PySem.W.mg_of X G a, b0, d1, r1, b1⟩
end
end HF

end
section
set_option Elab.async false
set_option linter.all false
set_option maxRecDepth 20000
set_option maxHeartbeats 1000000
set_option autoImplicit false
/-! HF41: xs[::-1] of lists and tuples; tuple.index of texts. -/
namespace HF
open PySem PySem.Spec PyProof.Rows L2 HT
theorem places_back (n : Nat) : Builtin.Slice.slicePlaces ((n : Int) - 1) (-1) (-1) = n := by
  unfold Builtin.Slice.slicePlaces
  have q1 : ¬ ((-1 : Int) > 0) := by omega
  simp only [q1, if_false, Int.neg_neg, Int.ediv_one]
  split <;> omega
theorem adjust_back (n : Nat) : Builtin.Slice.sliceAdjust none none (-1) (n : Int) = ((n : Int) - 1, -1) := by
  unfold Builtin.Slice.sliceAdjust
  have q1 : ((-1 : Int) < 0) := by omega
  simp only [q1, if_true]
theorem fm_congr {α β : Type} {f g : α → Option β} : ∀ {l : List α}, (∀ x ∈ l, f x = g x) → l.filterMap f = l.filterMap g
  | [], _ => rfl
  | x :: l, h => by rw [List.filterMap_cons, List.filterMap_cons, h x List.mem_cons_self, fm_congr fun y hy => h y (List.mem_cons_of_mem _ hy)]
theorem pick_back (xs : Array Value) : ((List.range xs.size).filterMap fun (m : Nat) => xs[(((xs.size : Int) - 1) + (m : Int) * (-1)).toNat]?).toArray = xs.toList.reverse.toArray := by
  have e1 : ∀ m ∈ List.range xs.size, xs[(((xs.size : Int) - 1) + (m : Int) * (-1)).toNat]? = xs.toList.reverse[m]? := fun m hm => by
    have lt := List.mem_range.mp hm
    have q : (((xs.size : Int) - 1) + (m : Int) * (-1)).toNat = xs.size - 1 - m := by omega
    rw [q, List.getElem?_reverse (by simpa using lt), Array.getElem?_toList, Array.length_toList]
  rw [fm_congr e1]
  congr 1
  have : ∀ l : List Value, (List.range l.length).filterMap (fun m => l[m]?) = l := by
    intro l
    apply List.ext_getElem?
    intro i
    have key : ∀ (l : List Value) (k : Nat), k ≤ l.length → (List.range k).filterMap (fun m => l[m]?) = l.take k := by
      intro l k
      induction k with
      | zero => intro _; simp
      | succ k ih =>
        intro hk
        have lt : k < l.length := by omega
        rw [List.range_succ, List.filterMap_append, ih (by omega), List.take_add_one, List.getElem?_eq_getElem lt]
        simp [lt]
    rw [key l l.length (Nat.le_refl _), List.take_length]
  have h := this xs.toList.reverse
  rw [List.length_reverse, Array.length_toList] at h
  exact h
section
variable {prog : Program} {w : World} {A : Around} {E : Value → Shared → Prop} {s : Shared}
theorem applied_back {sl : Addr} {vl vu vs : Value} {n : Nat} {Q : Int × Int × Nat → Shared → Prop} (hs : s.heap.IsSliceOf sl vl vu vs) (pl : IsPart vl none) (pu : IsPart vu none) (ps : IsPart vs (some (-1)))
    (h : Q ((n : Int) - 1, -1, n) s) : wpAny (model prog w) A (Builtin.Slice.sliceApplied (.ref sl) (pure (n : Int))) Q E s := by
  obtain ⟨ob, hob, hcb, hdb⟩ := id hs
  unfold Builtin.Slice.sliceApplied Builtin.Slice.sliceFields
  refine wpAny_bind (wpAny_bind (wpAny_field hob hdb (x := vl) rfl (wpAny_bind (wpAny_field hob hdb (x := vu) rfl (wpAny_bind (wpAny_field hob hdb (x := vs) rfl (wpAny_pure ?_)))))))
  refine wpAny_bind (slicePart_ ps ?_)
  show wpAny _ _ (if ((-1 : Int) == 0) = true then _ else _) _ _ s
  rw [if_neg (by decide)]
  refine wpAny_bind (slicePart_ pl (wpAny_bind (slicePart_ pu (wpAny_bind (wpAny_pure ?_)))))
  show wpAny _ _ (match Builtin.Slice.sliceAdjust none none (-1) (n : Int) with | (lo, hi) => pure (lo, (-1 : Int), Builtin.Slice.slicePlaces lo hi (-1))) _ _ s
  rw [adjust_back n]
  show wpAny _ _ (pure (((n : Int) - 1), (-1 : Int), Builtin.Slice.slicePlaces ((n : Int) - 1) (-1) (-1))) _ _ s
  rw [places_back]
  exact wpAny_pure h
theorem getItem_tuple_back {t sl : Addr} {items : Array Value} {vl vu vs : Value} {Q : Value → Shared → Prop} (ht : IsTup s.heap t items) (hs : s.heap.IsSliceOf sl vl vu vs) (pl : IsPart vl none) (pu : IsPart vu none) (ps : IsPart vs (some (-1)))
    (h : Q (.ref s.heap.objs.size) { s with heap := s.heap.push { cls := .type "tuple", data := .seq items.toList.reverse.toArray } }) (hsz : items.size ≤ sizeLine) : wpAny (model prog w) A (getItem (.ref t) (.ref sl)) Q E s := by
  have fit : sizeOk (.seq items.toList.reverse.toArray) := by
    show items.toList.reverse.toArray.size ≤ sizeLine
    rw [List.size_toArray, List.length_reverse, Array.length_toList]
    exact hsz
  obtain ⟨ob, hob, hcb, hdb⟩ := id hs
  have tys : s.TypeIs (.ref sl) "slice" := ⟨ob, hob, hcb⟩
  unfold getItem
  try with_reducible refine wpAny_holding ?_
  first | refine wpAny_bind (wpAny_pure ?_) | skip
  refine wpAny_bind (wpAny_sequenceKey ht.typeIs (by decide) ?_)
  refine wpAny_bind (wpAny_callSpecial?_slot (name := Str.ofString "__getitem__") ht.typeIs PyProof.Rows.slot_tuple_getitem (wpAny_call_entry PyProof.Rows.slot_tuple_getitem ht.typeIs entry_tuple_getitem ?_ (args_tuple_getitem _ _)))
  show wpAny _ _ (Builtin.Tuple.tupleItemsOf (.ref t) >>= _) _ _ s
  refine wpAny_bind (tupleItemsOf_ ht ?_)
  refine wpAny_bind (wpAny_typeOf tys ?_)
  rw [if_pos (by decide)]
  refine wpAny_bind (applied_back hs pl pu ps ?_)
  have nx : ¬ ((((items.size : Int) - 1) == 0 && (-1 : Int) == 1 && items.size == items.size) = true) := by
    intro q
    rw [Bool.and_eq_true, Bool.and_eq_true] at q
    exact absurd q.1.2 (by decide)
  show wpAny _ _ (if (((items.size : Int) - 1) == 0 && (-1 : Int) == 1 && items.size == items.size) = true then _ else _) _ _ s
  rw [if_neg nx, pick_back]
  first
    | exact wpAny_bind (m := Builtin.Tuple.tupleExact _) (wpAny_newObj_type (wpAny_pure ⟨_, rfl, wpAny_pure h⟩) fit)
    | exact wpAny_bind (wpAny_bind (m := Builtin.Tuple.tupleExact _) (wpAny_newObj_type (wpAny_pure (wpAny_pure ⟨_, rfl, wpAny_pure h⟩)) fit))
    | exact wpAny_bind (wpAny_bind (m := Builtin.Tuple.tupleExact _) (wpAny_newObj_type (wpAny_pure ⟨_, rfl, wpAny_pure h⟩) fit))
end
section
variable {X : Cx} {E : Ent} {W : WX} {N : List Str} {sc : Scope} {fs : Str → Bool} {k : Nat} {Z : Wd}
def tRevA (K : PySem.W.Frag) (te : TE) : TE := fun σ H Q => te σ H fun x H1 => ∃ a xs, x = .ref a ∧ (SqL K H1 a xs ∧ (∀ p, H1 p = none → Q (.ref p) (upd H1 p (.lst xs.reverse))) ∨ SqT K H1 a xs ∧ ∀ p, H1 p = none → Q (.ref p) (upd H1 p (.tup xs.reverse)))
theorem pe_revA {e : Expr} {te : TE} {k : Nat} {p1 p2 p3 pos : Pos} (he : PE X e te) : PE X (.Subscript e (.Slice none none (some (.UnaryOp .USub (.Constant (.int 1) k p1) p2)) p3) pos) (tRevA X.K te) := by
  refine ⟨fun pins s σ H Q I h => ?_⟩
  refine Subscript_ (thn (he.run pins s σ H _ I h) fun v s1 ⟨x, H1, I1, r1, q1⟩ => ?_)
  obtain ⟨a, xs, ex, q⟩ := q1
  subst ex
  cases r1
  have pst : L2.PO X (some (.UnaryOp .USub (.Constant (.int 1) k p1) p2)) (tPart (tUn (rU fun i => .int (-i)) (tC (.int 1)))) := po_some (pe_un un_neg pe_int)
  refine wpAny_Slice (thn (po_none.run pins s1 σ H1 (fun o Hz => o = none ∧ Hz = H1) I1 ⟨rfl, rfl⟩) fun vl s2 ⟨l, H2, I2, pl, el, e2⟩ => ?_)
  subst el e2
  refine thn (po_none.run pins s2 σ H2 (fun o Hz => o = none ∧ Hz = H2) I2 ⟨rfl, rfl⟩) fun vu s3 ⟨u, H3, I3, pu, eu, e3⟩ => ?_
  subst eu e3
  refine thn (pst.run pins s3 σ H3 (fun o Hz => o = some (-1) ∧ Hz = H3) I3 ⟨1, rfl, -1, rfl, rfl, rfl⟩) fun vs s4 ⟨o, H4, I4, ps, eo, e4⟩ => ?_
  subst eo e4
  have I5 : Inv X pins σ H4 { s4 with heap := s4.heap.push { cls := .type "slice", data := .fields #[vl, vu, vs] } } := I4.kept (t' := s4.toks) fun b ob z => Heap.get?_push_of_some _ z
  show wpAny (model X.prog X.w) X.A (subscriptTail e (.Slice none none (some (.UnaryOp .USub (.Constant (.int 1) k p1) p2)) p3) (.ref a) (.ref s4.heap.objs.size)) (EP X pins σ Q) X.xe { s4 with heap := s4.heap.push { cls := .type "slice", data := .fields #[vl, vu, vs] } }
  rcases q with ⟨hx, q⟩ | ⟨hx, q⟩
  · obtain ⟨its, r, ht, hz⟩ := I5.list hx
    have ln := r.length
    refine tail_any (ops := [.ref a, .ref s4.heap.objs.size]) ht.isList.typeIs (PySem.slot_list_getitem.lookup) ?_ (by with_unfolding_all rfl)
    refine wpAny_getItem_list_slice ht.isList (Heap.IsSliceOf.new _ vl vu vs) pl pu ps (by decide) ?_ (by rw [List.size_toArray]; omega)
    rw [PySem.W.krv_pick]
    refine ⟨.ref _, _, I5.laid (t' := s4.toks) (o := .lst xs.reverse) (fun b ob z => Heap.get?_push_of_some _ z) (Nat.le_refl _) ?_, rfl, q _ (I5.hok.fresh (Nat.le_refl _))⟩
    exact ⟨by rw [List.length_reverse]; exact hz, _, 0, r.reverse, Heap.get?_push_size _ rfl⟩
  · obtain ⟨its, r, ht, hz⟩ := I5.tuple hx
    have ln := r.length
    refine tail_any (ops := [.ref a, .ref s4.heap.objs.size]) ht.typeIs (PyProof.Rows.slot_tuple_getitem.lookup) ?_ (by with_unfolding_all rfl)
    refine getItem_tuple_back ht (Heap.IsSliceOf.new _ vl vu vs) pl pu ps ?_ (by rw [List.size_toArray]; omega)
    refine ⟨.ref _, _, I5.laid (t' := s4.toks) (o := .tup xs.reverse) (fun b ob z => Heap.get?_push_of_some _ z) (Nat.le_refl _) ?_, rfl, q _ (I5.hok.fresh (Nat.le_refl _))⟩
    exact ⟨by rw [List.length_reverse]; exact hz, _, r.reverse, ⟨_, Heap.get?_push_size _ rfl, rfl, 0, by simp⟩⟩
@[simp] def opRev : Op1 := fun x M => match x with
  | .v (.tup xs) => some (.v (.tup xs.reverse))
  | x => (asLst M x).map fun xs => .fr (.lst xs.reverse)
theorem fe_rev {e : Expr} {f : Sm EV} {k : Nat} {p1 p2 p3 pos : Pos} (he : FE X E W e f) : FE X E W (.Subscript e (.Slice none none (some (.UnaryOp .USub (.Constant (.int 1) k p1) p2)) p3) pos) (e1 opRev f) := by
  refine ⟨PE.weak (pe_revA he.pe) ?_⟩
  rintro s H Q ⟨G, M, R, h⟩
  refine tE_one R h fun G1 M1 H1 x u V1 R1 rx h1 => ?_
  cases e1 : opRev x M1 with
  | none => rw [e1] at h1; exact h1.elim
  | some ev =>
    rw [e1] at h1
    simp only [opRev] at e1
    split at e1
    · cases e1
      obtain ⟨a, us, rfl, ha, ra, za⟩ := repE_tup rx
      refine ⟨a, us, rfl, .inr ⟨ha, fun p hp => ?_⟩⟩
      obtain ⟨V3, R3, r3⟩ := rep_newtup R1 ra.reverse (by rw [List.length_reverse]; exact za) hp
      exact h1 _ _ V3 R3 (.ref p) r3
    · cases q : asLst M1 x with
      | none => rw [q] at e1; cases e1
      | some xs =>
        rw [q] at e1
        cases e1
        obtain ⟨a, us, rfl, ha, ra, za⟩ := lst_of R1 rx q
        refine ⟨a, us, rfl, .inl ⟨ha, fun p hp => ?_⟩⟩
        obtain ⟨V3, R3, r3⟩ := rep_newlst (H0 := H) R1 V1.dom ra.reverse (by rw [List.length_reverse]; exact za) hp
        exact h1 _ _ V3 R3 (.ref p) r3
/-! ### t[::-1].index(x), t a tuple of texts -/
def rObj (its : List Value) : Obj := { cls := .type "tuple", data := .seq its.reverse.toArray }
theorem pe_revF {e : Expr} {te : TE} {k : Nat} {p1 p2 p3 pos : Pos} (he : PE X e te) : PE X (.Subscript e (.Slice none none (some (.UnaryOp .USub (.Constant (.int 1) k p1) p2)) p3) pos)
    (fun σ H Q => te σ H fun x H1 => ∃ a xs, x = .ref a ∧ SqT X.K H1 a xs ∧ ∀ p its, H1 p = none → Q (.ref p) (upd H1 p (.frz (rObj its) (.tup xs.reverse)))) := by
  refine ⟨fun pins s σ H Q I h => ?_⟩
  refine Subscript_ (thn (he.run pins s σ H _ I h) fun v s1 ⟨x, H1, I1, r1, q1⟩ => ?_)
  obtain ⟨a, xs, ex, hx, q⟩ := q1
  subst ex
  cases r1
  have pst : L2.PO X (some (.UnaryOp .USub (.Constant (.int 1) k p1) p2)) (tPart (tUn (rU fun i => .int (-i)) (tC (.int 1)))) := po_some (pe_un un_neg pe_int)
  refine wpAny_Slice (thn (po_none.run pins s1 σ H1 (fun o Hz => o = none ∧ Hz = H1) I1 ⟨rfl, rfl⟩) fun vl s2 ⟨l, H2, I2, pl, el, e2⟩ => ?_)
  subst el e2
  refine thn (po_none.run pins s2 σ H2 (fun o Hz => o = none ∧ Hz = H2) I2 ⟨rfl, rfl⟩) fun vu s3 ⟨u, H3, I3, pu, eu, e3⟩ => ?_
  subst eu e3
  refine thn (pst.run pins s3 σ H3 (fun o Hz => o = some (-1) ∧ Hz = H3) I3 ⟨1, rfl, -1, rfl, rfl, rfl⟩) fun vs s4 ⟨o, H4, I4, ps, eo, e4⟩ => ?_
  subst eo e4
  have I5 : Inv X pins σ H4 { s4 with heap := s4.heap.push { cls := .type "slice", data := .fields #[vl, vu, vs] } } := I4.kept (t' := s4.toks) fun b ob z => Heap.get?_push_of_some _ z
  show wpAny (model X.prog X.w) X.A (subscriptTail e (.Slice none none (some (.UnaryOp .USub (.Constant (.int 1) k p1) p2)) p3) (.ref a) (.ref s4.heap.objs.size)) (EP X pins σ Q) X.xe { s4 with heap := s4.heap.push { cls := .type "slice", data := .fields #[vl, vu, vs] } }
  obtain ⟨its, r, ht, hz⟩ := I5.tuple hx
  have ln := r.length
  refine tail_any (ops := [.ref a, .ref s4.heap.objs.size]) ht.typeIs (PyProof.Rows.slot_tuple_getitem.lookup) ?_ (by with_unfolding_all rfl)
  refine getItem_tuple_back ht (Heap.IsSliceOf.new _ vl vu vs) pl pu ps ?_ (by rw [List.size_toArray]; omega)
  refine ⟨.ref _, _, I5.laid (t' := s4.toks) (o := .frz (rObj its) (.tup xs.reverse)) (fun b ob z => Heap.get?_push_of_some _ z) (Nat.le_refl _) ?_, rfl, q _ its (I5.hok.fresh (Nat.le_refl _))⟩
  exact ⟨Heap.get?_push_size _ rfl, by rw [List.length_reverse]; exact hz, _, r.reverse, ⟨_, Heap.get?_push_size _ rfl, rfl, 0, by simp⟩⟩
/-- behind the slice: its tuple at p, then the thing looked for, then the place -/
def wRevIdx (t2 : TE) (σ : L2.St) (Q : VK) : VK := fun v H1 => ∃ (p : Addr) (its : List Value) (ys : List Str), v = .ref p ∧ H1 p = some (.frz (rObj its) (.tup (ys.map V.str))) ∧
  t2 σ H1 fun y H2 => H2 p = some (.frz (rObj its) (.tup (ys.map V.str))) ∧ ∃ z j, [y] = [V.str z] ∧ ys[j]? = some z ∧ (∀ m, m < j → ys[m]? ≠ some z) ∧ Q (.int (j : Nat)) H2
theorem pe_revIdx {e e2 : Expr} {te t2 : TE} {k : Nat} {p1 p2 p3 pos apos cpos : Pos} (he : PE X e te) (h2 : PE X e2 t2)
    (hbase : attributeBase (.Subscript e (.Slice none none (some (.UnaryOp .USub (.Constant (.int 1) k p1) p2)) p3) pos) "index" X.env (eval (.Subscript e (.Slice none none (some (.UnaryOp .USub (.Constant (.int 1) k p1) p2)) p3) pos) X.env) = eval (.Subscript e (.Slice none none (some (.UnaryOp .USub (.Constant (.int 1) k p1) p2)) p3) pos) X.env)
    (hfew : ((backTo cpos (starEach [e2] X.env)).all (fun x => !x.1) && (backToKw cpos (keywordEach [] X.env)).all (fun x => x.1.isSome) && decide ([e2].length + ([] : List Keyword).length + (if ([] : List Keyword).isEmpty then 0 else 1) < 30)) = true)
    (hline : (apos.endLine == cpos.line) = true) (hs : starEach [e2] X.env = (false, eval e2 X.env) :: starEach [] X.env) :
    PE X (.Call (.Attribute (.Subscript e (.Slice none none (some (.UnaryOp .USub (.Constant (.int 1) k p1) p2)) p3) pos) "index" apos) [e2] [] cpos)
      (fun σ H Q => te σ H fun x H1 => ∃ a xs, x = .ref a ∧ SqT X.K H1 a xs ∧ ∀ p its, H1 p = none → wRevIdx t2 σ Q (.ref p) (upd H1 p (.frz (rObj its) (.tup xs.reverse)))) := by
  have po := pe_revF (k := k) (p1 := p1) (p2 := p2) (p3 := p3) (pos := pos) he
  refine ⟨fun pins s σ H Q I h => ?_⟩
  refine wpAny_Call_method_late hbase hfew hline rfl (thn (po.run pins s σ H (wRevIdx t2 σ Q) I h) fun v s1 ⟨x, H1, I1, r1, q1⟩ => ?_)
  obtain ⟨p, its, ys, rfl, hp, q1⟩ := q1
  cases r1
  obtain ⟨hget, _⟩ := I1.hok p _ hp
  have tys : s1.TypeIs (.ref p) "tuple" := ⟨_, hget, rfl⟩
  refine ⟨"tuple", "tuple.index", PySem.F.plainAttrs_tuple, PySem.F.slot_tuple_index, PySem.F.type_tuple_index, tys, fun b e => by cases e; exact ⟨_, hget, rfl⟩, ?_⟩
  have hA := (pa_cons h2 pa_nil hs : PA X [e2] _).run cpos pins s1 σ H1 (fun vs H2 => H2 p = some (.frz (rObj its) (.tup (ys.map V.str))) ∧ ∃ z j, vs = [.str z] ∧ ys[j]? = some z ∧ (∀ m, m < j → ys[m]? ≠ some z) ∧ Q (.int (j : Nat)) H2) I1 q1
  rw [hs] at hA ⊢
  refine Calls.callWith_builtin (by show (false || (backTo cpos (starEach [] X.env)).any (·.1)) = false; rfl) (Calls.evalArgs_plain ?_)
  refine thn hA fun us s2 ⟨vs, H2, I2, r2, hp2, z, j, ev, hj, hno, q2⟩ => ?_
  exact mt_tup_index pins s2 σ H2 (.ref p) vs (.ref p) us Q I2 rfl r2 ⟨p, ys, z, j, rfl, ev, .inl (.inr ⟨_, hp2⟩), hj, hno, q2⟩
def firstIx : List Str → Str → Option Nat
  | [], _ => none
  | y :: l, z => if y = z then some 0 else (firstIx l z).map (· + 1)
theorem firstIx_ok : ∀ {l : List Str} {z : Str} {j : Nat}, firstIx l z = some j → l[j]? = some z ∧ ∀ m, m < j → l[m]? ≠ some z
  | [], z, j, h => by cases h
  | y :: l, z, j, h => by
    unfold firstIx at h
    split at h
    · rename_i e; cases h; exact ⟨by simp [e], fun m hm => by omega⟩
    · rename_i e
      cases q : firstIx l z with
      | none => rw [q] at h; cases h
      | some i =>
        rw [q] at h
        simp at h
        subst h
        obtain ⟨h1, h2⟩ := firstIx_ok q
        refine ⟨by simpa using h1, fun m hm => ?_⟩
        cases m with
        | zero => simpa using e
        | succ m => simpa using h2 m (by omega)
@[simp] def eRevIdx (f g : Sm EV) : Sm EV := fun M => (f M).bnd fun x M1 => match x with
  | .v (.tup xs) => match asStrs xs with
    | some ys => (g M1).bnd fun y M2 => match y with
      | .v (.str z) => match firstIx ys.reverse z with
        | some j => .ok (.v (.int (j : Nat))) M2
        | none => .bad
      | _ => .bad
    | none => .bad
  | _ => .bad
theorem fe_revIdx {e e2 : Expr} {f g : Sm EV} {k : Nat} {p1 p2 p3 pos apos cpos : Pos} (he : FE X E W e f) (h2 : FE X E W e2 g)
    (hbase : attributeBase (.Subscript e (.Slice none none (some (.UnaryOp .USub (.Constant (.int 1) k p1) p2)) p3) pos) "index" X.env (eval (.Subscript e (.Slice none none (some (.UnaryOp .USub (.Constant (.int 1) k p1) p2)) p3) pos) X.env) = eval (.Subscript e (.Slice none none (some (.UnaryOp .USub (.Constant (.int 1) k p1) p2)) p3) pos) X.env := by rfl)
    (hfew : ((backTo cpos (starEach [e2] X.env)).all (fun x => !x.1) && (backToKw cpos (keywordEach [] X.env)).all (fun x => x.1.isSome) && decide ([e2].length + ([] : List Keyword).length + (if ([] : List Keyword).isEmpty then 0 else 1) < 30)) = true := by rfl)
    (hline : (apos.endLine == cpos.line) = true := by rfl) (hs : starEach [e2] X.env = (false, eval e2 X.env) :: starEach [] X.env := by rfl) :
    FE X E W (.Call (.Attribute (.Subscript e (.Slice none none (some (.UnaryOp .USub (.Constant (.int 1) k p1) p2)) p3) pos) "index" apos) [e2] [] cpos) (eRevIdx f g) := by
  refine ⟨PE.weak (pe_revIdx he.pe h2.pe hbase hfew hline hs) ?_⟩
  rintro s H Q ⟨G, M, R, h⟩
  refine tE_one R h fun G1 M1 H1 x u V1 R1 rx h1 => ?_
  split at h1
  · rename_i xs
    split at h1
    · rename_i ys ey
      obtain ⟨a, us, rfl, ha, ra, za⟩ := repE_tup rx
      have eu := asStrs_rep ey ra
      subst eu
      refine ⟨a, _, rfl, ha, fun p its hp => ?_⟩
      obtain ⟨R2, V2, eh, nf, na, no⟩ := R1.laid (.frz (rObj its) (.tup (ys.map V.str).reverse)) hp
      have nx : NoX (HO.frz (rObj its) (.tup (ys.map V.str).reverse)) := ⟨fun _ z => (nomatch z), fun _ z => (nomatch z)⟩
      have R3 := R2.frozen upd_same eh na no nx
      have V3 := V2.frozen (p := p) (.inl hp)
      refine ⟨p, its, ys.reverse, rfl, by rw [List.map_reverse]; exact upd_same, G1.fz p, M1, R3, ?_⟩
      have h3 : OutP X E W s (G1.fz p) M1 (upd H1 p (.frz (rObj its) (.tup (ys.map V.str).reverse))) ((g M1).bnd fun y M2 => match y with
          | .v (.str z) => match firstIx ys.reverse z with
            | some j => .ok (.v (.int (j : Nat))) M2
            | none => .bad
          | _ => .bad) (fun G' M' H' ev => ∀ u, RepE X.K E H G' M' s H' ev u → Q u H') := by
        unfold OutP at h1 ⊢
        split
        · rename_i r e
          rw [e] at h1
          exact fun G' H' V R => h1 G' H' (V3.trans V) R
        · rename_i r e
          rw [e] at h1
          exact fun G' H' C x R m => h1 G' H' C (V3.ext.trans x) R m
        · rename_i e
          rw [e] at h1
          exact h1
      refine h3.bnd.imp fun G4 M4 H4 y V4 R4 h4 w rw' => ?_
      refine ⟨?_, ?_⟩
      · rw [List.map_reverse]
        exact V4.ext.fz p _ _ (.inr rfl) upd_same
      · split at h4
        · rename_i z
          split at h4
          · rename_i j ej
            obtain ⟨j1, j2⟩ := firstIx_ok ej
            have ew : w = .str z := by
              have rw2 : RepV X.K G4 H4 (.str z) w := rw'
              simpa only [RepV] using rw2
            subst ew
            exact ⟨z, j, rfl, j1, j2, OutP.now h4 R4 _ (show RepV X.K G4 H4 (.int _) _ by simp only [RepV])⟩
          · exact h4.elim
        · exact h4.elim
    · exact h1.elim
  · exact h1.elim
end
end HF

end
section
set_option Elab.async false
set_option linter.all false
set_option maxRecDepth 100000
set_option maxHeartbeats 4000000
set_option autoImplicit false
/-! HF38: sets of texts, made of a list or a tuple. -/
namespace HFS
open PySem PySem.Spec PyProof.Rows L2
theorem is_str (P : Program) (w : World) (k : Str) (t : Tok) : (strKind P w).is k (.str k t) = true := by
  show Value.isStrOf k (.str k t) = true
  unfold Value.isStrOf; simp
def txtOf (e : Int × Value) : Str := match e.2 with | .str k _ => k | _ => Str.empty
def GoodT (w : World) (e : Int × Value) : Prop := ∃ k tk, e.2 = Value.str k tk ∧ e.1 = hashStr w k

/-- the set of ints at a: S its members, n their number; its table rises and can be walked -/
def SetW (w : World) (h : Heap) (a : Addr) (S : Str → Bool) (n : Nat) : Prop :=
  ∃ o es ep t, h.get? a = some o ∧ o.ExactSet ∧ o.data = .set es ep t ∧ (∀ e ∈ es.toList, GoodT w e) ∧ (es.toList.map txtOf).Nodup ∧ (∀ k, S k = true ↔ k ∈ es.toList.map txtOf) ∧
    es.size < scanBound ∧ t.fits es.size = true ∧ es.size = n ∧ Ris t.place.toList ∧ (w.params.followText "set-order" = true ∨ t.led = true)

section
variable {P : Program} {w : World} {h h' : Heap} {a : Addr} {S : Str → Bool} {n : Nat}

theorem SetW.at (R : SetW w h a S n) (k : ∀ o, h.get? a = some o → h'.get? a = some o) : SetW w h' a S n := by
  obtain ⟨o, es, ep, t, xo, r⟩ := R
  exact ⟨o, es, ep, t, k o xo, r⟩
theorem SetW.lt (R : SetW w h a S n) : a < h.objs.size := by
  obtain ⟨o, es, ep, t, xo, r⟩ := R
  exact Heap.lt_size xo
theorem SetW.congr {S' : Str → Bool} (R : SetW w h a S n) (e : ∀ k, S' k = S k) : SetW w h a S' n := by
  have q : S' = S := funext e
  rw [q]; exact R
theorem goodT_elems {l : List (Int × Value)} (g : ∀ e ∈ l, GoodT w e) : ElemsOf (strKind P w) l := fun e xe1 => by
  obtain ⟨k, tk, x1, x2⟩ := g e xe1
  exact ⟨⟨k, by rw [x1]; exact is_str P w k tk, x2⟩, by rw [x1] <;> rfl⟩
theorem goodT_is {e : Int × Value} (g : GoodT w e) (k : Str) : (strKind P w).is k e.2 = true ↔ txtOf e = k := by
  obtain ⟨k0, tk, x1, _⟩ := g
  unfold txtOf
  rw [x1]
  show ((k0 == k) = true) ↔ k0 = k
  exact beq_iff_eq
theorem goodT_mem {l : List (Int × Value)} (g : ∀ e ∈ l, GoodT w e) (k : Str) : k ∈ l.map txtOf ↔ ∃ e ∈ l, (strKind P w).is k e.2 = true := by
  rw [List.mem_map]
  constructor
  · rintro ⟨e, xe1, q⟩
    exact ⟨e, xe1, (goodT_is (g e xe1) k).2 q⟩
  · rintro ⟨e, xe1, q⟩
    exact ⟨e, xe1, (goodT_is (g e xe1) k).1 q⟩
theorem SetW.setOf (R : SetW w h a S n) : h.SetOf (strKind P w) a S n := by
  obtain ⟨o, es, ep, t, xo, xx, xd, g, nd, xm, xb, xf, xn, _⟩ := R
  exact ⟨o, es, ep, t, xo, xx, xd, goodT_elems g, fun k => (xm k).trans (goodT_mem g k), xb, xf, xn⟩
end

section
variable {P : Program} {w : World} {A : Around} {E : Value → Shared → Prop} {s : Shared} {a : Addr} {S : Str → Bool} {n : Nat}

/-! ### add -/
theorem storeW_at {h : Heap} {a : Addr} {o : Obj} {es es' : Array (Int × Value)} {ep : Nat} {t t' : SetTable} (xo : h.get? a = some o) (xd : o.data = .set es ep t) :
    (h.update a (Obj.putSet es' t')).get? a = some { o with data := .set es' (ep + 1) t' } := by
  have q := Heap.get?_update_self (Obj.putSet es' t') xo (by rw [putSet_of es' t' xd]; rfl)
  rw [putSet_of es' t' xd] at q
  exact q

theorem setW_add_tail {g : Bool → Sem Unit} (xg : ∀ (b : Bool) (s₁ : Shared) (Q' : Unit → Shared → Prop), Q' () s₁ → wpAny (model P w) A (g b) Q' E s₁)
    {o : Obj} {es : Array (Int × Value)} {ep : Nat} {t : SetTable} (xo : s.heap.get? a = some o) (xex : o.ExactSet) (xd : o.data = .set es ep t)
    {es1 : Array (Int × Value)} {t2 : SetTable} {S' : Str → Bool} (yg1 : ∀ e ∈ es1.toList, GoodT w e) (yd1 : (es1.toList.map txtOf).Nodup) (ym1 : ∀ k, S' k = true ↔ k ∈ es1.toList.map txtOf)
    (xb1 : es1.size < scanBound) (xf2 : t2.fits es1.size = true) (xr : Ris t2.place.toList) (xl : w.params.followText "set-order" = true ∨ t2.led = true) {wasDummy : Bool} {R : Option Bool → Shared → Prop}
    (xR : ∀ h', Heap.SameBut a s.heap h' → SetW w h' a S' es1.size → R (some true) { s with heap := h' }) :
    wpAny (model P w) A (do
        storeSet a es1 t2
        if (!wasDummy && t2.tooFull) = true then do
            g (relayAll t2 es1 (SetTable.grown es1.size)).2.2
            storeSet a (relayAll t2 es1 (SetTable.grown es1.size)).1 (relayAll t2 es1 (SetTable.grown es1.size)).2.1
            pure (some true)
          else pure (some true)) R E s := by
  refine wpAny_bind (wpAny_storeSet_of xo xd ?_ (fits_of_scanBound xb1))
  have xo1 := storeW_at (es' := es1) (t' := t2) xo xd
  have yb1 := Heap.SameBut.update s.heap a (Obj.putSet es1 t2)
  split
  · have qm := relayAll_perm t2 es1 (SetTable.grown es1.size)
    have xf3 := relayAll_fits t2 es1 (SetTable.grown es1.size)
    have xr3 := relayAll_ris t2 es1 (SetTable.grown es1.size)
    have xl3 := relayAll_led t2 es1 (SetTable.grown es1.size)
    generalize relayAll t2 es1 (SetTable.grown es1.size) = Z at qm xf3 xr3 xl3 ⊢
    obtain ⟨es2, t3, gave⟩ := Z
    dsimp only at qm xf3 xr3 xl3 ⊢
    have xsz : es2.size = es1.size := by rw [← Array.length_toList, qm.length_eq, Array.length_toList]
    have xb2 : es2.size < scanBound := by rw [xsz]; exact xb1
    refine wpAny_bind (xg _ _ _ ?_)
    refine wpAny_bind (wpAny_storeSet_of xo1 rfl ?_ (fits_of_scanBound xb2))
    have xo2 := storeW_at (es' := es2) (t' := t3) xo1 rfl
    refine wpAny_pure (xR _ (yb1.trans (Heap.SameBut.update _ a _)) ?_)
    exact ⟨_, es2, _, t3, xo2, xex, rfl, fun e xe1 => yg1 e (qm.mem_iff.mp xe1), (qm.map txtOf).nodup_iff.mpr yd1, fun k => (ym1 k).trans (qm.map txtOf).mem_iff.symm, xb2, xf3, xsz, xr3,
      xl.imp id fun z => by rw [xl3]; exact z⟩
  · exact wpAny_pure (xR _ yb1 ⟨_, es1, _, t2, xo1, xex, rfl, yg1, yd1, ym1, xb1, xf2, rfl, xr, xl⟩)

theorem setW_add_hashed {k : Str} {tk : Tok} {Q : Bool → Shared → Prop} (R : SetW w s.heap a S n) (room : n + 1 < scanBound)
    (xQ : ∀ h', Heap.SameBut a s.heap h' → SetW w h' a (fun j => S j || decide (j = k)) (if S k = true then n else n + 1) → Q (!S k) { s with heap := h' }) :
    wpAny (model P w) A (setAddHashed a (.str k tk) ((strKind P w).hash k)) Q E s := by
  obtain ⟨o, es, ep, t, xo, xex, xd, g, nd, xm, xb, xf, xn, xr, xl⟩ := R
  have xkey : (strKind P w).is k (.str k tk) = true := is_str P w k tk
  have xsc : (Value.str k tk).scannable = true := rfl
  have xel : ElemsOf (strKind P w) es.toList := goodT_elems g
  unfold setAddHashed setAddHashedIn
  refine wpAny_holding (wpAny_bind (wpAny_setState_of xo xd xf ?_))
  dsimp only
  rw [byScan_of xsc xb xel]
  simp only [↓reduceIte]
  unfold setAddByScan
  refine wpAny_bind ?_
  refine wpAny_bind (wpAny_rule ?_)
  refine wpAny_bind (wpAny_setScan_of xkey xo xd xf xel ?_)
  cases xfi : List.findIdx? (fun e => (strKind P w).is k e.2) es.toList with
  | some j =>
    dsimp only
    obtain ⟨xj, qj, _⟩ := List.findIdx?_eq_some_iff_getElem.mp xfi
    have xSk : S k = true := (xm k).2 ((goodT_mem (P := P) (w := w) g k).2 ⟨es.toList[j], List.getElem_mem xj, qj⟩)
    refine wpAny_pure (wpAny_pure ?_)
    have q := xQ s.heap (Heap.SameBut.refl a s.heap) ⟨o, es, ep, t, xo, xex, xd, g, nd, fun i => by
      rw [Bool.or_eq_true, decide_eq_true_eq, ← xm i]
      exact ⟨fun z => z.elim id (fun e => e ▸ xSk), .inl⟩, xb, xf, by rw [if_pos xSk]; exact xn, xr, xl⟩
    rw [xSk] at q
    exact q
  | none =>
    dsimp only
    have xnk : k ∉ es.toList.map txtOf := fun z => by
      obtain ⟨e, xe1, q⟩ := (goodT_mem (P := P) (w := w) g k).1 z
      have c := List.findIdx?_eq_none_iff.mp xfi e xe1
      rw [q] at c
      cases c
    have xSk : S k = false := by
      cases q : S k with
      | false => rfl
      | true => exact absurd ((xm k).1 q) xnk
    have xgw : ∀ (b : Bool) {s₁ : Shared} {Q' : Unit → Shared → Prop}, Q' () s₁ → wpAny (model P w) A (match b with | true => rule "set.scan.the-table-gave-way" | false => pure ()) Q' E s₁ :=
      fun b s₁ Q' q => by cases b <;> first | exact wpAny_pure q | exact wpAny_rule q
    have qm := layNew_perm t es ((strKind P w).hash k) (.str k tk)
    have xf1 := layNew_fits t es ((strKind P w).hash k) (.str k tk)
    have xr1 := layNew_ris t es ((strKind P w).hash k) (.str k tk) xr
    have xl1 := layNew_led t es ((strKind P w).hash k) (.str k tk)
    generalize layNew t es ((strKind P w).hash k) (.str k tk) = Z at qm xf1 xr1 xl1 ⊢
    obtain ⟨es1, t1, wasDummy, gave⟩ := Z
    dsimp only at qm xf1 xr1 xl1 ⊢
    rw [Array.toList_push] at qm
    have qc : es1.toList.Perm (((strKind P w).hash k, Value.str k tk) :: es.toList) := qm.trans (List.perm_append_singleton _ _)
    have qk : (es1.toList.map txtOf).Perm (k :: es.toList.map txtOf) := qc.map txtOf
    have yg1 : ∀ e ∈ es1.toList, GoodT w e := fun e xe1 => by
      rcases List.mem_cons.mp (qc.mem_iff.mp xe1) with z | z
      · rw [z]; exact ⟨k, tk, rfl, rfl⟩
      · exact g e z
    have yd1 : (es1.toList.map txtOf).Nodup := qk.nodup_iff.mpr (List.nodup_cons.mpr ⟨xnk, nd⟩)
    have ym1 : ∀ i, (S i || decide (i = k)) = true ↔ i ∈ es1.toList.map txtOf := fun i => by
      rw [Bool.or_eq_true, decide_eq_true_eq, xm i, qk.mem_iff, List.mem_cons]
      exact Or.comm
    have xsz : es1.size = n + 1 := by rw [← Array.length_toList, qc.length_eq, List.length_cons, Array.length_toList, xn]
    have xb1 : es1.size < scanBound := by rw [xsz]; exact room
    have xled : w.params.followText "set-order" = true ∨ t1.led = true := xl.imp id fun z => by rw [xl1]; exact z
    have ffin : ∀ h', Heap.SameBut a s.heap h' → SetW w h' a (fun j => S j || decide (j = k)) es1.size → Q true { s with heap := h' } := fun h' sb r => by
      have q := xQ h' sb
      rw [xSk] at q
      rw [xsz] at r
      exact q r
    refine wpAny_bind (xgw _ ?_)
    split
    · refine wpAny_bind ?_
      rw [hashByValue_scannable 8 xsc]
      refine wpAny_pure ?_
      refine setW_add_tail ?_ xo xex xd yg1 yd1 ym1 xb1 ?_ ?_ ?_ ?_
      · intro b s₁ Q' q; cases b <;> first | exact wpAny_pure q | exact wpAny_rule q
      · first | (split <;> first | exact xf1 | exact SetTable.fits_plain_off xf1) | exact xf1
      · first | (split <;> exact xr1) | exact xr1
      · first | (split <;> exact xled) | exact xled
      · intro h' sb r; dsimp only; exact wpAny_pure (ffin h' sb r)
    · refine wpAny_bind (wpAny_pure ?_)
      simp only [↓reduceIte]
      refine setW_add_tail ?_ xo xex xd yg1 yd1 ym1 xb1 xf1 xr1 xled ?_
      · intro b s₁ Q' q; cases b <;> first | exact wpAny_pure q | exact wpAny_rule q
      · intro h' sb r; dsimp only; exact wpAny_pure (ffin h' sb r)

theorem setW_new_at {w : World} {h : Heap} {a : Addr} {ns : List Str} (xo : h.get? a = some { cls := .type "set", dict := none, data := .set #[] 0 (.fresh 0 0 (!w.params.followText "set-order")) }) : SetW w h a (fun j => decide (j ∈ ns.take 0)) 0 :=
  ⟨_, #[], 0, _, xo, ⟨rfl, rfl, rfl⟩, rfl, (fun e xe1 => by simp at xe1), (by simp), (fun k => by simp), (by decide), (by rfl), rfl, List.Pairwise.nil, by
    show _ ∨ (!w.params.followText "set-order") = true
    cases w.params.followText "set-order"
    · exact .inr rfl
    · exact .inl rfl⟩
section
variable {P : Program} {w : World} {A : Around} {E : Value → Shared → Prop} {s : Shared}
theorem set_update_txts {I : Addr} {fp wr : List Addr} {G : Array GenState → Array GenState → Prop} {n : Nat} {Pv : Nat → Value → Prop} {St : Nat → Shared → Prop} {R : Result → Shared → Prop}
    (W : WalksS P w A.in1 I fp wr G n Pv St) (S : Addr) (xSf : S ∉ fp) (ns : List Str) (xn : n = ns.length) (xb : ns.length + 1 < scanBound) (xval : ∀ i v, Pv i v → ∃ k t, ns[i]? = some k ∧ v = .str k t) :
    ∀ (k i : Nat) (s : Shared), n - i = k → i ≤ n → St i s → (∃ c, c ≤ i ∧ SetW w s.heap S (fun j => decide (j ∈ ns.take i)) c) →
      (∀ s' c, Moved (S :: wr) G s s' → c ≤ n → SetW w s'.heap S (fun j => decide (j ∈ ns)) c → R (.ok (.ret .none)) s') →
      codeAny (model P w) A (.builtin "set.update.loop" ⟨[.ref S, .ref I], []⟩) R s := by
  have xSw : S ∉ wr := fun h => xSf (W.sub _ h)
  have xsub : ∀ b ∈ wr, b ∈ S :: wr := fun b xb => List.mem_cons_of_mem _ xb
  intro k
  induction k with
  | zero =>
    intro i s xk' xi xst ⟨c, xc, xS⟩ xR
    have xin : i = n := by omega
    subst xin
    refine codeAny_builtin F.entry_set_update_loop ?_
    rw [Around.under_plainId F.plain_set_update_loop _]
    show wpAny _ A.in1 (pyNext (.ref I) >>= _) _ _ s
    refine wpAny_bind (W.done s _ _ xst fun s' xm => ?_)
    show wpAny _ A.in1 (ret Value.none) _ _ s'
    have e : ns.take i = ns := List.take_of_length_le (by omega)
    rw [e] at xS
    exact wpAny_pure (xR s' c (xm.mono xsub) xc (xS.at fun o e => xm.heap S o xSw e))
  | succ k ih =>
    intro i s xk' xi xst ⟨c, xc, xS⟩ xR
    have xlt : i < n := by omega
    refine codeAny_builtin F.entry_set_update_loop ?_
    rw [Around.under_plainId F.plain_set_update_loop _]
    show wpAny _ A.in1 (pyNext (.ref I) >>= _) _ _ s
    refine wpAny_bind (W.item i s _ _ xlt xst fun v s' xP xst' xm => ?_)
    obtain ⟨z, t, xz, rfl⟩ := xval i v xP
    have xS' : SetW w s'.heap S (fun j => decide (j ∈ ns.take i)) c := xS.at fun o e => xm.heap S o xSw e
    show wpAny _ A.in1 (holding [Value.str z t] (setAdd S (.str z t)) >>= _) _ _ s'
    refine wpAny_bind (wpAny_holding ?_)
    unfold setAdd
    refine wpAny_holding ?_
    refine wpAny_bind ((strKind P w).pyHash (k := z) (is_str _ _ _ _) ?_)
    refine setW_add_hashed (s := { s' with toks := s'.toks + 1 }) xS' (by omega) fun h' hsb hS2 => ?_
    have hS3 : SetW w h' S (fun j => decide (j ∈ ns.take (i + 1))) (if decide (z ∈ ns.take i) = true then c else c + 1) := hS2.congr fun j => by
      rw [List.take_add_one, xz]
      simp [List.mem_append]
    have hc3 : (if decide (z ∈ ns.take i) = true then c else c + 1) ≤ i + 1 := by
      split <;> omega
    refine wpAny_pure ⟨plainId_quiet F.plain_set_update_loop _, ih (i + 1) _ (by omega) xlt (W.frame _ s' _ _ xst' (Nat.le_succ _) fun b xb o e => ?_) ⟨_, hc3, hS3⟩ fun s'' c2 xm'' xc'' xS'' => ?_⟩
    · rw [hsb.2 b (fun h : b = S => xSf (by rw [← h]; exact xb))]; exact e
    · refine xR s'' c2 (Moved.trans W.gtrans ((xm.mono xsub).then_heap (Nat.le_succ _) fun b o xb e => ?_) xm'') xc'' xS''
      rw [hsb.2 b (fun h : b = S => xb (by rw [h]; exact List.mem_cons_self))]; exact e

theorem code_setW_led (a : Value) {Q₁ : Value → Shared → Prop}
    (h : Q₁ (.ref s.heap.objs.size) { s with heap := s.heap.push { cls := .type "set", dict := none, data := .set #[] 0 (.fresh 0 0 (!w.params.followText "set-order")) } }) :
    codeAny (model P w) A (.call (.builtin "set.__new__") ⟨[.type "set", a], []⟩) (wants Q₁ E) s := by
  refine codeAny_of_tree ?_
  show wpAny _ A.in1 (do checkBuiltinCall "set.__new__" ⟨[.type "set", a], []⟩; again (.builtin "set.__new__" ⟨[.type "set", a], []⟩)) _ _ s
  refine wpAny_bind (wpAny_of_eq (F.newCall_set_1 a) (wpAny_pure ⟨plainId_quiet F.plain_set_new _, codeAny_builtin F.entry_set_new ?_⟩))
  rw [Around.under_plainId F.plain_set_new _]
  unfold Builtin.«set.__new__» Builtin.Frozenset.newClass
  have xsub := sub_set_self
  obtain ⟨hp, g, d, tk, os⟩ := s
  dsimp only
  wp_walk
  refine wpAny_askSetting (wpAny_pure ?_)
  dsimp only
  simp only [newObj]
  refine wpAny_bind (wpAny_alloc (wpAny_pure ?_))
  exact wpAny_pure h

set_option maxRecDepth 100000 in
set_option maxHeartbeats 3200000 in
theorem call_setWL {l : Addr} {items : Array Value} (ns : List Str) {Q : Value → Shared → Prop} (xh : A.handled = none) (xl : s.heap.IsList l items) (xit : StrsAre items.toList ns) (xb : ns.length + 1 < scanBound)
    (h : ∀ (h' : Heap) (tk c : Nat), SetW w h' s.heap.objs.size (fun j => decide (j ∈ ns)) c → c ≤ ns.length → (∀ b o, s.heap.get? b = some o → h'.get? b = some o) → Q (.ref s.heap.objs.size) { s with heap := h', toks := tk }) :
    wpAny (model P w) A (call (.type "set") [.ref l]) Q E s := by
  have xisz : items.size = ns.length := by
    have q := StrsAre.length xit
    rw [Array.length_toList] at q
    exact q
  obtain ⟨c, tl, xmro⟩ := F.called_set.mro
  have xmade := F.called_set.made
  have xsub := F.called_set.sub
  refine wpAny_call (codeAny_of_tree ?_)
  show wpAny _ _ (callAny (.type "set") _) _ _ _
  refine wpAny_pure ⟨Code.quiet_builtin _ (by decide +kernel), codeAny_builtin F.entry_type_call ?_⟩
  rw [Around.under_plain (weight_type_call_type "set" [.ref l] []) rfl]
  have x1 := F.called_set.notType
  have x2 := F.called_set.canCreate
  have xct := F.typeCall_set_1 (.ref l)
  repeat (any_goals (first | assumption | wp_step))

  refine codeAny_mono (code_setW_led (.ref l) (E := E) (Q₁ := fun obj s₁ => obj = .ref s.heap.objs.size ∧ s₁ = { s with heap := s.heap.push { cls := .type "set", dict := none, data := .set #[] 0 (.fresh 0 0 (!w.params.followText "set-order")) } }) ⟨rfl, rfl⟩) fun r s₁ xr => ?_
  cases r with
  | error e => exact xr
  | ok fl =>
    cases fl with
    | ret obj =>
      obtain ⟨rfl, rfl⟩ := xr
      have xS : (s.heap.push { cls := .type "set", dict := none, data := .set #[] 0 (.fresh 0 0 (!w.params.followText "set-order")) }).get? s.heap.objs.size = some { cls := .type "set", dict := none, data := .set #[] 0 (.fresh 0 0 (!w.params.followText "set-order")) } := Heap.get?_push_size _ rfl
      have xT : Shared.TypeIs { s with heap := s.heap.push { cls := .type "set", dict := none, data := .set #[] 0 (.fresh 0 0 (!w.params.followText "set-order")) } } (.ref s.heap.objs.size) "set" := ⟨_, xS, rfl⟩
      have xli := F.called_set.init.lookup
      have xbi := F.called_set.init.bind (.ref s.heap.objs.size)
      repeat (any_goals (first | assumption | wp_step))

      refine codeAny_mono (codeAny_call_builtin (R := wants (fun r s₂ => r = .none ∧ ∃ h' tk c, s₂ = { s with heap := h', toks := tk } ∧ SetW w h' s.heap.objs.size (fun j => decide (j ∈ ns)) c ∧ c ≤ ns.length ∧
          (∀ b o, s.heap.get? b = some o → h'.get? b = some o)) E) F.called_set.init.plain F.entry_set_init (check_set_init_1 xT ?_)) fun r₂ s₂ hr₂ => ?_
      · obtain ⟨ol, xol, xcl, nl, xdl⟩ := xl
        obtain ⟨acls, adict, adata, aslots⟩ := ol
        simp only at xcl xdl
        subst xcl; subst xdl
        have xol' : (s.heap.push { cls := .type "set", dict := none, data := .set #[] 0 (.fresh 0 0 (!w.params.followText "set-order")) }).get? l = some { cls := .type "list", dict := adict, data := .seq items nl, slots := aslots } := Heap.get?_push_of_some _ xol
        have xsls := F.sub_list_set
        have xslf := F.sub_list_frozenset
        have xne : (Value.type "list" == Value.type "dict") = false := by decide
        have xl1 : (s.heap.push { cls := .type "set", dict := none, data := .set #[] 0 (.fresh 0 0 (!w.params.followText "set-order")) }).IsList l items := ⟨_, xol', rfl, nl, rfl⟩
        unfold Builtin.«set.__init__» noKeywords Builtin.Frozenset.updateFrom
        generalize xPI : pyIter = PI
        wp_walk
        subst xPI

        refine wpAny_pyIter_list xl1 ?_
        refine wpAny_bind (wpAny_runValue ?_)
        have xlS : l < s.heap.objs.size := Heap.lt_size xol
        have xh3 : A.in1.in1.in1.handled = none := by simp [xh]
        have xz1 : (s.heap.push { cls := .type "set", dict := none, data := .set #[] 0 (.fresh 0 0 (!w.params.followText "set-order")) }).objs.size = s.heap.objs.size + 1 := Heap.size_push ..
        have xneI : l ≠ (s.heap.push { cls := .type "set", dict := none, data := .set #[] 0 (.fresh 0 0 (!w.params.followText "set-order")) }).objs.size := by
          rw [Heap.size_push]; exact Nat.ne_of_lt (Nat.lt_succ_of_lt xlS)
        have xSf : s.heap.objs.size ∉ [(s.heap.push { cls := .type "set", dict := none, data := .set #[] 0 (.fresh 0 0 (!w.params.followText "set-order")) }).objs.size, l] := by
          rw [Heap.size_push]; simp only [List.mem_cons, List.mem_singleton, List.not_mem_nil, or_false, not_or]
          exact ⟨Nat.ne_of_lt (Nat.lt_succ_self _), Nat.ne_of_gt xlS⟩
        have xval : ∀ (i : Nat) (v : Value), items[i]? = some v → ∃ k t, ns[i]? = some k ∧ v = .str k t := fun i v hv => by
          have xi : i < ns.length := by rw [← xisz]; exact (Array.getElem?_eq_some_iff.mp hv).1
          obtain ⟨t, e⟩ := SS.strs_at xit i v (by rw [Array.getElem?_toList]; exact hv)
          refine ⟨ns[i], t, List.getElem?_eq_getElem xi, ?_⟩
          rw [e, List.getD_eq_getElem?_getD, List.getElem?_eq_getElem xi] <;> rfl
        refine set_update_txts ((Walks.list xh3 _ l xneI items).toS) s.heap.objs.size
          xSf ns xisz xb xval (items.size - 0) 0 _ (by omega) (Nat.zero_le _)
          ⟨⟨_, Heap.get?_push_size _ rfl, rfl, rfl⟩, (xl1.push _)⟩ ?hS0 ?xR
        case hS0 =>
          have xget : ((s.heap.push { cls := .type "set", dict := none, data := .set #[] 0 (.fresh 0 0 (!w.params.followText "set-order")) }).push { cls := .type "list_iterator", data := .fields #[.ref l, .int 0 0] }).get? s.heap.objs.size
              = some { cls := .type "set", dict := none, data := .set #[] 0 (.fresh 0 0 (!w.params.followText "set-order")) } := Heap.get?_push_of_some _ xS
          exact ⟨0, Nat.le_refl 0, setW_new_at xget⟩
        case xR =>
          intro s' c' xm xc' xS'
          obtain ⟨h', g2, d', tk', os'⟩ := s'
          have yg : g2 = s.gens := xm.gens
          have yd : d' = s.drawn := xm.drawn
          have yo : os' = s.os := xm.os
          subst yg; subst yd; subst yo
          show wpAny _ _ _ _ _ _
          refine wpAny_pure ?_
          show wpAny _ _ (ret Value.none) _ _ _
          rw [xisz] at xc'
          refine wpAny_pure ⟨rfl, h', tk', c', rfl, xS', xc', fun b o e => ?_⟩
          have xb0 : b < s.heap.objs.size := Heap.lt_size e
          have xb1 : b ≠ s.heap.objs.size := Nat.ne_of_lt xb0
          have xb2 : b ≠ (s.heap.push { cls := .type "set", dict := none, data := .set #[] 0 (.fresh 0 0 (!w.params.followText "set-order")) }).objs.size := by
            rw [Heap.size_push]; exact Nat.ne_of_lt (Nat.lt_succ_of_lt xb0)
          exact xm.heap b o (by simp only [List.mem_cons, List.mem_singleton, List.not_mem_nil, or_false, not_or]; exact ⟨xb1, xb2⟩) (Heap.get?_push_of_some _ (Heap.get?_push_of_some _ e))

      · cases r₂ with
        | error e => exact hr₂
        | ok fl₂ =>
          cases fl₂ with
          | ret r =>
            obtain ⟨rfl, h', tk, c', rfl, xS', xc', xk'⟩ := hr₂
            repeat (any_goals (first | assumption | wp_step))
            exact h _ _ _ xS' xc' xk'
          | _ => exact hr₂.elim
    | _ => exact xr.elim


end
end
end HFS

end
section
set_option Elab.async false
set_option linter.all false
set_option maxRecDepth 100000
set_option maxHeartbeats 4000000
set_option autoImplicit false
/-! HF39: sorted(set(texts)), sorted(texts), len(set(texts)). -/
namespace HFS
open PySem PySem.Spec PyProof.Rows L2
/-! ### the order of texts -/
def leS (a b : Str) : Bool := !(ltCps b.cps.toList a.cps.toList)
def srtS (xs : List Str) : List Str := xs.mergeSort leS
theorem leS_iff {a b : Str} : leS a b = true ↔ ¬ b.cps.toList < a.cps.toList := by
  unfold leS; rw [ltCps_eq]; simp
theorem leS_trans (a b c : Str) (h1 : leS a b = true) (h2 : leS b c = true) : leS a c = true := by
  rw [leS_iff] at h1 h2 ⊢
  have q1 : a.cps.toList ≤ b.cps.toList := h1
  have q2 : b.cps.toList ≤ c.cps.toList := h2
  exact (List.le_trans q1 q2 : a.cps.toList ≤ c.cps.toList)
theorem leS_total (a b : Str) : (leS a b || leS b a) = true := by
  rw [Bool.or_eq_true, leS_iff, leS_iff]
  rcases Decidable.em (b.cps.toList < a.cps.toList) with z | z
  · exact .inr fun q => List.lt_irrefl _ (List.lt_trans z q)
  · exact .inl z
theorem leS_anti {a b : Str} (h1 : leS a b = true) (h2 : leS b a = true) : a = b := by
  rw [leS_iff] at h1 h2
  have e := List.le_antisymm (as := a.cps.toList) (bs := b.cps.toList) h1 h2
  obtain ⟨x⟩ := a
  obtain ⟨y⟩ := b
  have : x = y := by rw [← Array.toArray_toList (xs := x), ← Array.toArray_toList (xs := y)]; exact congrArg _ e
  rw [this]
theorem rising_pair : ∀ (p : Str) (l : List Str), risingS p l = true → (p :: l).Pairwise fun a b => leS a b = true
  | p, [], _ => by simp
  | p, x :: l, h => by
    simp only [risingS, Bool.and_eq_true] at h
    have ih := rising_pair x l h.2
    have hp : leS p x = true := h.1
    refine List.pairwise_cons.mpr ⟨fun y hy => ?_, ih⟩
    rcases List.mem_cons.mp hy with rfl | hy
    · exact hp
    · exact leS_trans p x y hp ((List.pairwise_cons.mp ih).1 y hy)
theorem sortedS_pair (l : List Str) (h : sortedS l = true) : l.Pairwise fun a b => leS a b = true := by
  cases l with
  | nil => exact List.Pairwise.nil
  | cons p l => exact rising_pair p l h
theorem srt_unique {ys xs : List Str} (p : ys.Perm xs) (h : ys.Pairwise fun a b => leS a b = true) : ys = srtS xs :=
  List.Perm.eq_of_pairwise (le := fun a b => leS a b = true) (fun a b _ _ => leS_anti) h (List.pairwise_mergeSort leS_trans leS_total xs) (p.trans (List.mergeSort_perm xs leS).symm)
theorem srtS_perm (xs : List Str) : (srtS xs).Perm xs := List.mergeSort_perm xs leS
theorem srtS_len (xs : List Str) : (srtS xs).length = xs.length := (srtS_perm xs).length_eq
theorem srtS_same {xs ys : List Str} (p : xs.Perm ys) : srtS xs = srtS ys :=
  srt_unique ((srtS_perm xs).trans p) (List.pairwise_mergeSort leS_trans leS_total xs)
/-- each once, as first met -/
def unlikeS (xs : List Str) : List Str := xs.foldl step_dedup []
theorem unlikeS_snoc (xs : List Str) (x : Str) : unlikeS (xs ++ [x]) = step_dedup (unlikeS xs) x := by unfold unlikeS; rw [List.foldl_append]; rfl
theorem unlikeS_facts (xs : List Str) : (unlikeS xs).Nodup ∧ (∀ x, x ∈ unlikeS xs ↔ x ∈ xs) ∧ (unlikeS xs).length ≤ xs.length := by
  have key : ∀ (l s : List Str), s.Nodup → (l.foldl step_dedup s).Nodup ∧ (∀ x, x ∈ l.foldl step_dedup s ↔ x ∈ s ∨ x ∈ l) ∧ (l.foldl step_dedup s).length ≤ s.length + l.length := by
    intro l
    induction l with
    | nil => intro s hs; exact ⟨hs, fun x => by simp, by simp⟩
    | cons y l ih =>
      intro s hs
      by_cases c : s.any (· == y) = true
      · have e : step_dedup s y = s := by unfold step_dedup; rw [if_pos c]
        have ym : y ∈ s := by
          obtain ⟨z, hz, q⟩ := List.any_eq_true.mp c
          rw [← beq_iff_eq.mp q]; exact hz
        obtain ⟨a, b, d⟩ := ih s hs
        rw [List.foldl_cons, e]
        refine ⟨a, fun x => (b x).trans ⟨fun h => h.imp id (List.mem_cons_of_mem _), fun h => h.elim .inl fun h => (List.mem_cons.mp h).elim (fun q => .inl (q ▸ ym)) .inr⟩, by simp; omega⟩
      · have e : step_dedup s y = s ++ [y] := by unfold step_dedup; rw [if_neg c]
        have ym : y ∉ s := fun z => c (List.any_eq_true.mpr ⟨y, z, beq_self_eq_true y⟩)
        obtain ⟨a, b, d⟩ := ih (s ++ [y]) (by
          rw [List.nodup_append]
          exact ⟨hs, by simp, fun u hu v hv q => by simp at hv; subst hv; exact ym (q ▸ hu)⟩)
        rw [List.foldl_cons, e]
        refine ⟨a, fun x => (b x).trans (by simp [or_assoc]), by simp at d ⊢; omega⟩
  have := key xs [] (by simp)
  exact ⟨this.1, fun x => (this.2.1 x).trans (by simp), by have := this.2.2; simp only [List.length_nil, Nat.zero_add] at this; exact this⟩
theorem nodup_perm {xs ys : List Str} (h1 : xs.Nodup) (h2 : ys.Nodup) (h : ∀ x, x ∈ xs ↔ x ∈ ys) : xs.Perm ys := (List.perm_ext_iff_of_nodup h1 h2).mpr h
/-! ### sorted of the set -/
theorem txts_of (w : World) : ∀ (l : List (Int × Value)), (∀ e ∈ l, GoodT w e) → StrsAre (l.map (·.2)) (l.map txtOf)
  | [], _ => .nil
  | e :: l, h => by
    obtain ⟨k, tk, q, _⟩ := h e List.mem_cons_self
    have e1 : txtOf e = k := by unfold txtOf; rw [q]
    rw [List.map_cons, List.map_cons, q, e1]
    exact .cons k tk (txts_of w l fun u hu => h u (List.mem_cons_of_mem _ hu))
def rawT (v : Value) : Str := match v with
  | .str k _ => k
  | _ => Str.empty
theorem strs_raw : ∀ {l : List Value} (h : ∀ v ∈ l, ∃ k tk, v = Value.str k tk), StrsAre l (l.map rawT)
  | [], _ => .nil
  | v :: l, h => by
    obtain ⟨k, tk, rfl⟩ := h v List.mem_cons_self
    exact .cons k tk (strs_raw fun u hu => h u (List.mem_cons_of_mem _ hu))
section
variable {P : Program} {w : World} {A : Around} {E : Value → Shared → Prop} {s : Shared} {a : Addr}
theorem sortedW_set {S : Str → Bool} {n : Nat} {Q : Value → Shared → Prop} (R : SetW w s.heap a S n) (hh : A.handled = none)
    (hQ : ∀ s' p (out : Array Value) (c : Nat) (ys : List Str), (∀ b o, s.heap.get? b = some o → s'.heap.get? b = some o) → s'.gens = s.gens → s'.os = s.os → s.heap.objs.size ≤ p →
      s'.heap.get? p = some (seqObj "list" out c) → StrsAre out.toList ys → sortedS ys = true → ys.Nodup → (∀ k, k ∈ ys ↔ S k = true) → ys.length ≤ sizeLine → Q (.ref p) s') :
    wpAny (model P w) A (call (.builtin "sorted") [.ref a]) Q E s := by
  obtain ⟨o, es, ep, t, ho, hex, hd, g, nd, hm, hb, hf, hn, hr, hl⟩ := R
  refine Calls.call_function_entry kind_sorted plain_sorted entry_sorted (args_sorted1 _) ?_
  unfold Builtin.«sorted»
  refine wpAny_bind (m := checkCount "sorted" 1 1 _) (wpAny_pure ?_)
  refine wpAny_bind (collect_set (A := A.in1) hh ⟨o, ho, hex.1, hd⟩ hf hb hr hl fun u1 vs k1 zz gg oo pm => ?_)
  have vl : vs.length = es.size := by rw [pm.length_eq, List.length_map, Array.length_toList]
  have vs1 : vs.length ≤ sizeLine := by rw [vl]; exact fits_of_scanBound hb
  have hI : StrsAre vs (vs.map rawT) := strs_raw fun v hv => by
    obtain ⟨e, he, q⟩ := List.mem_map.mp (pm.mem_iff.mp hv)
    obtain ⟨k, tk, e1, _⟩ := g e he
    exact ⟨k, tk, by rw [← q]; exact e1⟩
  have pk : (vs.map rawT).Perm (es.toList.map txtOf) := by
    have q := pm.map rawT
    rw [List.map_map] at q
    exact q
  refine wpAny_bind (wpAny_newList ?_ vs1)
  have hoL : (u1.heap.push (seqObj "list" vs.toArray 0)).get? u1.heap.objs.size = some (seqObj "list" vs.toArray 0) := Heap.get?_push_size _ rfl
  refine wpAny_bind (wpAny_holding (wpAny_call_entry slot_list_sort ⟨_, hoL, rfl⟩ entry_list_sort
    (list_sort_treeKAny strKind_oneLt hoL hI.keysOf (fun v₁ v₂ rest e => keyKind_strs (by rw [← e]; exact hI)) vs1 fun st' q1 q2 => ⟨_, rfl, ?_⟩) (args_list_sort _)))
  obtain ⟨ys, y1, y2, y3⟩ := sorted_out_str hI q1 q2
  obtain ⟨c, hc⟩ := sortedHeap_at (vs := vs) (out := (arrOf st').map (·.2)) hoL
  have pn : ys.Perm (es.toList.map txtOf) := y2.trans pk
  refine wpAny_pure ⟨_, rfl, hQ _ u1.heap.objs.size _ c ys (fun b u e => ?_) gg oo zz hc y1 y3 (pn.nodup_iff.mpr nd) (fun k => by rw [pn.mem_iff, ← hm k]) (by rw [y2.length_eq, List.length_map]; exact vs1)⟩
  have q := k1 b u e
  have lt := Heap.lt_size q
  show (sortedHeap (u1.heap.push (seqObj "list" vs.toArray 0)) u1.heap.objs.size vs ((arrOf st').map (·.2))).get? b = some u
  rw [sortedHeap_old (Nat.ne_of_lt lt) (by rw [size_push']; exact Nat.lt_succ_of_lt lt)]
  exact Heap.get?_push_of_some _ q
end
end HFS
namespace HF
open PySem PySem.Spec PyProof.Rows L2 HFS
section
variable {X : Cx} {E : Ent} {W : WX} {N : List Str} {sc : Scope} {fs : Str → Bool} {k : Nat} {Z : Wd}
/-- sorted(set(texts)) of a list -/
def tSortSet (K : PySem.W.Frag) (ta : TE) : TE := fun σ H Q => ta σ H fun x H1 => ∃ (l : Addr) (xs : List Str), x = .ref l ∧ SqL K H1 l (xs.map V.str) ∧ xs.length + 1 < scanBound ∧ ∀ p, H1 p = none → Q (.ref p) (upd H1 p (.lst ((srtS (unlikeS xs)).map V.str)))
theorem pe_sortSet {a : Expr} {ta : TE} {p p2 q pos : Pos} (hg : Gl X "sorted") (hm : X.mg "sorted" = none) (hg2 : Gl X "set") (hm2 : X.mg "set" = none) (ha : PE X a ta) (hc : X.calm = true)
    (na : starEach [a] X.env = (false, eval a X.env) :: starEach [] X.env) : PE X (.Call (.Name "sorted" p) [.Call (.Name "set" p2) [a] [] q] [] pos) (tSortSet X.K ta) := by
  refine ⟨fun pins s σ H Q I h => Call_ (ld_blt I hg hm PyProof.Rows.boot_sorted (PyProof.Rows.callWith_builtin1 (PyProof.Rows.args_cons ?_ rfl) rfl rfl))⟩
  refine Call_ (ld_blt I hg2 hm2 PyProof.Rows.boot_set (PyProof.Rows.callWith_type1 (PyProof.Rows.args_cons ?_ na) na rfl))
  refine thn (ha.run pins s σ H _ I h) fun v s1 ⟨x, H1, I1, r1, l, xs, ex, hq, hl, q1⟩ => PyProof.Rows.args_nil ?_
  subst ex
  cases r1
  obtain ⟨its, r, pl, hz⟩ := I1.list hq
  refine call_setWL xs (I1.ok.hd hc) pl.isList (by simpa using r.strs) hl fun h' tk c hS hcn hk => PyProof.Rows.args_nil ?_
  have J : Inv X pins σ H1 { s1 with heap := h', toks := tk } := I1.kept fun b o e => hk b o e
  refine sortedW_set (s := { s1 with heap := h', toks := tk }) hS (I1.ok.hd hc) fun s' p out c2 ys k2 gg oo pl2 hp hi hs nd hm' zl => ?_
  have eys : ys = srtS (unlikeS xs) := by
    obtain ⟨u1, u2, _⟩ := unlikeS_facts xs
    exact srt_unique (nodup_perm nd u1 fun k => by rw [hm' k, u2 k]; simp) (sortedS_pair ys hs)
  have hn : H1 p = none := J.hok.fresh pl2
  have lz : ((srtS (unlikeS xs)).map V.str).length ≤ sizeLine := by rw [← eys, List.length_map]; exact zl
  have J2 : Inv X pins σ (upd H1 p (.lst ((srtS (unlikeS xs)).map V.str))) s' :=
    J.call' (ch := []) oo (Un.laid k2 pl2 hn) (J.hok.laid k2 pl2 ⟨lz, out.toList, c2, by rw [← eys]; exact vals_of_strs hi, hp⟩) (by rw [gg]; exact J.bare) (fun _ z => nomatch z)
  exact ⟨.ref p, _, J2, rfl, q1 p hn⟩
@[simp] def opSortSet : Op1 := fun x M => match (asLst M x).bind asStrs with
  | some xs => if xs.length ≤ 4000 then some (.fr (.lst ((srtS (unlikeS xs)).map .str))) else none
  | none => none
theorem repVs_strs {K : PySem.W.Frag} {G : Gh} {H : Hp} : ∀ xs : List Str, RepVs K G H (xs.map PV.str) (xs.map V.str)
  | [] => RepVs.nil
  | x :: xs => RepVs.cons (by simp only [RepV]) (repVs_strs xs)
theorem fe_sortSet (A : Amb Z X W N sc fs k) {a : Expr} {f : Sm EV} {p p2 q pos : Pos} (hm : Z.mg ("sorted" : Str) = none) (hm2 : Z.mg ("set" : Str) = none) (ha : FE X E W a f) (hg : sc.names.lookup ("sorted" : Str) = some .globalImplicit := by rfl) (hg2 : sc.names.lookup ("set" : Str) = some .globalImplicit := by rfl)
    (na : starEach [a] X.env = (false, eval a X.env) :: starEach [] X.env := by rfl) : FE X E W (.Call (.Name "sorted" p) [.Call (.Name "set" p2) [a] [] q] [] pos) (e1 opSortSet f) := by
  refine ⟨PE.weak (pe_sortSet (A.gl hg) (A.no hm) (A.gl hg2) (A.no hm2) ha.pe A.calm na) ?_⟩
  rintro s H Q ⟨G, M, R, h⟩
  refine tE_one R h fun G1 M1 H1 x u V1 R1 rx h1 => ?_
  simp only [opSortSet] at h1
  cases e1 : asLst M1 x with
  | none => rw [e1] at h1; exact h1.elim
  | some ps =>
    rw [e1] at h1
    simp only [Option.bind_some] at h1
    cases e2 : asStrs ps with
    | none => rw [e2] at h1; exact h1.elim
    | some xs =>
      rw [e2] at h1
      simp only at h1
      split at h1
      · rename_i z
        obtain ⟨l, us, rfl, hl, rl, zl⟩ := lst_of R1 rx e1
        have eu := asStrs_rep e2 rl
        subst eu
        refine ⟨l, xs, rfl, hl, by unfold scanBound; omega, fun p hp => ?_⟩
        obtain ⟨R3, V3, eh, nf, na, no⟩ := R1.laid (.lst ((srtS (unlikeS xs)).map V.str)) hp
        have lz : ((srtS (unlikeS xs)).map V.str).length ≤ sizeLine := by
          have := (unlikeS_facts xs).2.2
          rw [List.length_map, srtS_len, sizeLine_eq]; omega
        exact h1 G1 _ V3 R3 (.ref p) ⟨p, _, rfl, L2.upd_same, ⟨_, rfl, lz, repVs_strs _⟩, eh, nf, na, no, V1.dom p hp⟩
      · exact h1.elim
@[simp] def opSortS : Op1 := fun x M => match (asLst M x).bind asStrs with
  | some xs => if xs.length < 64 then some (.fr (.lst ((srtS xs).map .str))) else none
  | none => none
theorem opSortS_ok : Op1Ok X (fun u => rSortedS X.K [u]) opSortS := by
  intro E s G M H H0 x u ev Q R d rx e q
  simp only [opSortS] at e
  cases e1 : asLst M x with
  | none => rw [e1] at e; cases e
  | some ps =>
    rw [e1] at e
    simp only [Option.bind_some] at e
    cases e2 : asStrs ps with
    | none => rw [e2] at e; cases e
    | some xs =>
      rw [e2] at e
      simp only at e
      split at e
      · rename_i z
        cases e
        obtain ⟨l, us, rfl, hl, rl, zl⟩ := lst_of R rx e1
        have eu := asStrs_rep e2 rl
        subst eu
        refine ⟨l, xs, rfl, hl, z, fun ys p pm so hp => ?_⟩
        have ey : ys = srtS xs := srt_unique pm (sortedS_pair ys so)
        subst ey
        obtain ⟨V1, R1, r1⟩ := rep_newlst (H0 := H0) R d (repVs_strs (srtS xs)) (by rw [List.length_map, srtS_len, sizeLine_eq]; omega) hp
        exact q G _ _ V1 R1 r1
      · cases e
theorem fe_sortS (A : Amb Z X W N sc fs k) {e : Expr} {f : Sm EV} {p pos : Pos} (hm : Z.mg ("sorted" : Str) = none) (he : FE X E W e f) (hg : sc.names.lookup ("sorted" : Str) = some .globalImplicit := by rfl) (h1 : starEach [e] X.env = (false, eval e X.env) :: starEach [] X.env := by rfl) : FE X E W (.Call (.Name "sorted" p) [e] [] pos) (e1 opSortS f) :=
  fe_b1 A cr_sortedS opSortS_ok hm PyProof.Rows.boot_sorted he hg (by decide) (by decide) h1
end
end HF

end
section
set_option Elab.async false
set_option linter.all false
set_option maxRecDepth 100000
set_option maxHeartbeats 4000000
set_option autoImplicit false
/-! HF42: len(set(tuple of texts)). -/
namespace HFS
open PySem PySem.Spec PyProof.Rows L2
section
variable {P : Program} {w : World} {A : Around} {E : Value → Shared → Prop} {s : Shared}
theorem call_setWT {l : Addr} {items : Array Value} (ns : List Str) {Q : Value → Shared → Prop} (xh : A.handled = none) (xl : s.heap.IsTuple l items) (xit : StrsAre items.toList ns) (xb : ns.length + 1 < scanBound)
    (h : ∀ (h' : Heap) (tk c : Nat), SetW w h' s.heap.objs.size (fun j => decide (j ∈ ns)) c → c ≤ ns.length → (∀ b o, s.heap.get? b = some o → h'.get? b = some o) → Q (.ref s.heap.objs.size) { s with heap := h', toks := tk }) :
    wpAny (model P w) A (call (.type "set") [.ref l]) Q E s := by
  have xisz : items.size = ns.length := by
    have q := StrsAre.length xit
    rw [Array.length_toList] at q
    exact q
  obtain ⟨c, tl, xmro⟩ := F.called_set.mro
  have xmade := F.called_set.made
  have xsub := F.called_set.sub
  refine wpAny_call (codeAny_of_tree ?_)
  show wpAny _ _ (callAny (.type "set") _) _ _ _
  refine wpAny_pure ⟨Code.quiet_builtin _ (by decide +kernel), codeAny_builtin F.entry_type_call ?_⟩
  rw [Around.under_plain (weight_type_call_type "set" [.ref l] []) rfl]
  have x1 := F.called_set.notType
  have x2 := F.called_set.canCreate
  have xct := F.typeCall_set_1 (.ref l)
  repeat (any_goals (first | assumption | wp_step))

  refine codeAny_mono (code_setW_led (.ref l) (E := E) (Q₁ := fun obj s₁ => obj = .ref s.heap.objs.size ∧ s₁ = { s with heap := s.heap.push { cls := .type "set", dict := none, data := .set #[] 0 (.fresh 0 0 (!w.params.followText "set-order")) } }) ⟨rfl, rfl⟩) fun r s₁ xr => ?_
  cases r with
  | error e => exact xr
  | ok fl =>
    cases fl with
    | ret obj =>
      obtain ⟨rfl, rfl⟩ := xr
      have xS : (s.heap.push { cls := .type "set", dict := none, data := .set #[] 0 (.fresh 0 0 (!w.params.followText "set-order")) }).get? s.heap.objs.size = some { cls := .type "set", dict := none, data := .set #[] 0 (.fresh 0 0 (!w.params.followText "set-order")) } := Heap.get?_push_size _ rfl
      have xT : Shared.TypeIs { s with heap := s.heap.push { cls := .type "set", dict := none, data := .set #[] 0 (.fresh 0 0 (!w.params.followText "set-order")) } } (.ref s.heap.objs.size) "set" := ⟨_, xS, rfl⟩
      have xli := F.called_set.init.lookup
      have xbi := F.called_set.init.bind (.ref s.heap.objs.size)
      repeat (any_goals (first | assumption | wp_step))

      refine codeAny_mono (codeAny_call_builtin (R := wants (fun r s₂ => r = .none ∧ ∃ h' tk c, s₂ = { s with heap := h', toks := tk } ∧ SetW w h' s.heap.objs.size (fun j => decide (j ∈ ns)) c ∧ c ≤ ns.length ∧
          (∀ b o, s.heap.get? b = some o → h'.get? b = some o)) E) F.called_set.init.plain F.entry_set_init (check_set_init_1 xT ?_)) fun r₂ s₂ hr₂ => ?_
      · obtain ⟨ol, xol, xcl, nl, xdl⟩ := xl
        obtain ⟨acls, adict, adata, aslots⟩ := ol
        simp only at xcl xdl
        subst xcl; subst xdl
        have xol' : (s.heap.push { cls := .type "set", dict := none, data := .set #[] 0 (.fresh 0 0 (!w.params.followText "set-order")) }).get? l = some { cls := .type "tuple", dict := adict, data := .seq items nl, slots := aslots } := Heap.get?_push_of_some _ xol
        have xsls := F.sub_tuple_set
        have xslf := F.sub_tuple_frozenset
        have xne : (Value.type "tuple" == Value.type "dict") = false := by decide
        have xl1 : (s.heap.push { cls := .type "set", dict := none, data := .set #[] 0 (.fresh 0 0 (!w.params.followText "set-order")) }).IsTuple l items := ⟨_, xol', rfl, nl, rfl⟩
        unfold Builtin.«set.__init__» noKeywords Builtin.Frozenset.updateFrom
        generalize xPI : pyIter = PI
        wp_walk
        subst xPI

        refine wpAny_pyIter_tuple xl1 ?_
        refine wpAny_bind (wpAny_runValue ?_)
        have xlS : l < s.heap.objs.size := Heap.lt_size xol
        have xh3 : A.in1.in1.in1.handled = none := by simp [xh]
        have xz1 : (s.heap.push { cls := .type "set", dict := none, data := .set #[] 0 (.fresh 0 0 (!w.params.followText "set-order")) }).objs.size = s.heap.objs.size + 1 := Heap.size_push ..
        have xneI : l ≠ (s.heap.push { cls := .type "set", dict := none, data := .set #[] 0 (.fresh 0 0 (!w.params.followText "set-order")) }).objs.size := by
          rw [Heap.size_push]; exact Nat.ne_of_lt (Nat.lt_succ_of_lt xlS)
        have xSf : s.heap.objs.size ∉ [(s.heap.push { cls := .type "set", dict := none, data := .set #[] 0 (.fresh 0 0 (!w.params.followText "set-order")) }).objs.size, l] := by
          rw [Heap.size_push]; simp only [List.mem_cons, List.mem_singleton, List.not_mem_nil, or_false, not_or]
          exact ⟨Nat.ne_of_lt (Nat.lt_succ_self _), Nat.ne_of_gt xlS⟩
        have xval : ∀ (i : Nat) (v : Value), items[i]? = some v → ∃ k t, ns[i]? = some k ∧ v = .str k t := fun i v hv => by
          have xi : i < ns.length := by rw [← xisz]; exact (Array.getElem?_eq_some_iff.mp hv).1
          obtain ⟨t, e⟩ := SS.strs_at xit i v (by rw [Array.getElem?_toList]; exact hv)
          refine ⟨ns[i], t, List.getElem?_eq_getElem xi, ?_⟩
          rw [e, List.getD_eq_getElem?_getD, List.getElem?_eq_getElem xi] <;> rfl
        refine set_update_txts ((Walks.tuple xh3 _ l xneI items).toS) s.heap.objs.size
          xSf ns xisz xb xval (items.size - 0) 0 _ (by omega) (Nat.zero_le _)
          ⟨⟨_, Heap.get?_push_size _ rfl, rfl, rfl⟩, (xl1.push _)⟩ ?hS0 ?xR
        case hS0 =>
          have xget : ((s.heap.push { cls := .type "set", dict := none, data := .set #[] 0 (.fresh 0 0 (!w.params.followText "set-order")) }).push { cls := .type "tuple_iterator", data := .fields #[.ref l, .int 0 0] }).get? s.heap.objs.size
              = some { cls := .type "set", dict := none, data := .set #[] 0 (.fresh 0 0 (!w.params.followText "set-order")) } := Heap.get?_push_of_some _ xS
          exact ⟨0, Nat.le_refl 0, setW_new_at xget⟩
        case xR =>
          intro s' c' xm xc' xS'
          obtain ⟨h', g2, d', tk', os'⟩ := s'
          have yg : g2 = s.gens := xm.gens
          have yd : d' = s.drawn := xm.drawn
          have yo : os' = s.os := xm.os
          subst yg; subst yd; subst yo
          show wpAny _ _ _ _ _ _
          refine wpAny_pure ?_
          show wpAny _ _ (ret Value.none) _ _ _
          rw [xisz] at xc'
          refine wpAny_pure ⟨rfl, h', tk', c', rfl, xS', xc', fun b o e => ?_⟩
          have xb0 : b < s.heap.objs.size := Heap.lt_size e
          have xb1 : b ≠ s.heap.objs.size := Nat.ne_of_lt xb0
          have xb2 : b ≠ (s.heap.push { cls := .type "set", dict := none, data := .set #[] 0 (.fresh 0 0 (!w.params.followText "set-order")) }).objs.size := by
            rw [Heap.size_push]; exact Nat.ne_of_lt (Nat.lt_succ_of_lt xb0)
          exact xm.heap b o (by simp only [List.mem_cons, List.mem_singleton, List.not_mem_nil, or_false, not_or]; exact ⟨xb1, xb2⟩) (Heap.get?_push_of_some _ (Heap.get?_push_of_some _ e))

      · cases r₂ with
        | error e => exact hr₂
        | ok fl₂ =>
          cases fl₂ with
          | ret r =>
            obtain ⟨rfl, h', tk, c', rfl, xS', xc', xk'⟩ := hr₂
            repeat (any_goals (first | assumption | wp_step))
            exact h _ _ _ xS' xc' xk'
          | _ => exact hr₂.elim
    | _ => exact xr.elim


end
end HFS
namespace HF
open PySem PySem.Spec PyProof.Rows L2 HFS
section
variable {X : Cx} {E : Ent} {W : WX} {N : List Str} {sc : Scope} {fs : Str → Bool} {k : Nat} {Z : Wd}
def tLenSetT (K : PySem.W.Frag) (ta : TE) : TE := fun σ H Q => ta σ H fun x H1 => ∃ (l : Addr) (xs : List Str), x = .ref l ∧ SqT K H1 l (xs.map V.str) ∧ xs.length + 1 < scanBound ∧ Q (.int ((unlikeS xs).length : Nat)) H1
theorem pe_lenSetT {a : Expr} {ta : TE} {p p2 q pos : Pos} (hg : Gl X "len") (hm : X.mg "len" = none) (hg2 : Gl X "set") (hm2 : X.mg "set" = none) (ha : PE X a ta) (hc : X.calm = true)
    (na : starEach [a] X.env = (false, eval a X.env) :: starEach [] X.env) : PE X (.Call (.Name "len" p) [.Call (.Name "set" p2) [a] [] q] [] pos) (tLenSetT X.K ta) := by
  refine ⟨fun pins s σ H Q I h => Call_ (ld_blt I hg hm PySem.boot_len (PyProof.Rows.callWith_builtin1 (PyProof.Rows.args_cons ?_ rfl) rfl rfl))⟩
  refine Call_ (ld_blt I hg2 hm2 PyProof.Rows.boot_set (PyProof.Rows.callWith_type1 (PyProof.Rows.args_cons ?_ na) na rfl))
  refine thn (ha.run pins s σ H _ I h) fun v s1 ⟨x, H1, I1, r1, l, xs, ex, hq, hl, q1⟩ => PyProof.Rows.args_nil ?_
  subst ex
  cases r1
  obtain ⟨its, r, pl, hz⟩ := I1.tuple hq
  refine call_setWT xs (I1.ok.hd hc) pl (by simpa using r.strs) hl fun h' tk c hS hcn hk => PyProof.Rows.args_nil ?_
  have J : Inv X pins σ H1 { s1 with heap := h', toks := tk } := I1.kept fun b o e => hk b o e
  obtain ⟨o, es, ep, t, ho, hex, hd, g, nd, hm, hb, hf, hn, _⟩ := hS
  have ec : es.size = (unlikeS xs).length := by
    obtain ⟨u1, u2, _⟩ := unlikeS_facts xs
    have := (nodup_perm nd u1 fun k => by rw [← hm k, u2 k]; simp).length_eq
    rw [List.length_map, Array.length_toList] at this
    exact this
  exact call_len_set ho hex hd hf (by unfold scanBound at hl; omega) ⟨.int ((unlikeS xs).length : Nat), H1, J.tok _, ⟨_, by rw [ec]⟩, q1⟩
@[simp] def opLenSetT : Op1 := fun x M => match x with
  | .v (.tup ps) => match asStrs ps with
    | some xs => if xs.length ≤ 4000 then some (.v (.int ((unlikeS xs).length : Nat))) else none
    | none => none
  | _ => none
theorem fe_lenSetT (A : Amb Z X W N sc fs k) {a : Expr} {f : Sm EV} {p p2 q pos : Pos} (hm : Z.mg ("len" : Str) = none) (hm2 : Z.mg ("set" : Str) = none) (ha : FE X E W a f) (hg : sc.names.lookup ("len" : Str) = some .globalImplicit := by rfl) (hg2 : sc.names.lookup ("set" : Str) = some .globalImplicit := by rfl)
    (na : starEach [a] X.env = (false, eval a X.env) :: starEach [] X.env := by rfl) : FE X E W (.Call (.Name "len" p) [.Call (.Name "set" p2) [a] [] q] [] pos) (e1 opLenSetT f) := by
  refine ⟨PE.weak (pe_lenSetT (A.gl hg) (A.no hm) (A.gl hg2) (A.no hm2) ha.pe A.calm na) ?_⟩
  rintro s H Q ⟨G, M, R, h⟩
  refine tE_one R h fun G1 M1 H1 x u V1 R1 rx h1 => ?_
  cases e0 : opLenSetT x M1 with
  | none => rw [e0] at h1; exact h1.elim
  | some ev =>
    rw [e0] at h1
    unfold opLenSetT at e0
    split at e0
    · rename_i ps
      cases e2 : asStrs ps with
      | none => rw [e2] at e0; cases e0
      | some xs =>
        rw [e2] at e0
        simp only at e0
        split at e0
        · rename_i z
          cases e0
          obtain ⟨a, us, rfl, ha, ra, za⟩ := repE_tup rx
          have eu := asStrs_rep e2 ra
          subst eu
          exact ⟨a, xs, rfl, ha, by unfold scanBound; omega, OutP.now h1 R1 _ (show RepV X.K G1 H1 (.int _) _ by simp only [RepV])⟩
        · cases e0
    · cases e0
end
end HF

end
section
set_option Elab.async false
set_option linter.all false
set_option maxRecDepth 20000
set_option maxHeartbeats 1000000
set_option autoImplicit false
/-! HF43: `x or y` where x is None or a tuple. -/
namespace HF
open PySem PySem.Spec PyProof.Rows L2 HT
variable {X : Cx} {E : Ent} {W : WX}
/-- `x or y`: None and the empty tuple give y -/
@[simp] def eOrT (f g : Sm EV) : Sm EV := fun M => (f M).bnd fun x M1 => match x with
  | .v .non => g M1
  | .v (.tup l) => if l.isEmpty then g M1 else .ok (.v (.tup l)) M1
  | _ => .bad
/-- a text so many times -/
theorem op_strRep : OpR X (binaryOp .Mult) (fun x y H Q => ∃ (z : Str) (n : Nat), x = .str z ∧ y = .int (n : Int) ∧ z.length ≤ 1000 ∧ n ≤ 1000 ∧ Q (.str (Txt.mul z n)) H) := by
  intro pins s σ H x y v u Q I rx ry h
  obtain ⟨z, n, rfl, rfl, h1, h2, q⟩ := h
  obtain ⟨t, rfl⟩ := rx
  obtain ⟨t', rfl⟩ := ry
  have zs : (sizeLine : Nat) = 16777216 := by decide
  have hb : z.length * n ≤ 1000 * 1000 := Nat.mul_le_mul h1 h2
  refine PySem.SB.mul ⟨?_, fun h3 _ => ?_, fun _ _ => ?_⟩ fun t'' k => ⟨.str (Txt.mul z n), H, I.tok k, ⟨t'', rfl⟩, q⟩
  · rw [decide_eq_false (by omega), decide_eq_false (by omega)]; rfl
  · have : (1000 : Int) ≤ (2 ^ 63 - 1) / (n : Int) := by
      rw [Int.le_ediv_iff_mul_le (by omega)]; omega
    omega
  · have e : z.length * ((n : Nat) : Int).toNat ≤ sizeLine := by rw [Int.toNat_natCast]; omega
    unfold Builtin.Str.tooLong
    simp
    omega
@[simp] def opStrRep : Op2 := fun x y _ => match x, y with
  | .v (.str z), .v (.int n) => if (decide (0 ≤ n) && decide (n ≤ 1000) && decide (z.length ≤ 1000)) = true then some (.v (.str (Txt.mul z n))) else none
  | _, _ => none
theorem opStrRep_ok : Op2Ok X (fun x y H Q => ∃ (z : Str) (n : Nat), x = .str z ∧ y = .int (n : Int) ∧ z.length ≤ 1000 ∧ n ≤ 1000 ∧ Q (.str (Txt.mul z n)) H) opStrRep := by
  intro E s G M H H0 x y u v ev Q R d rx ry e q
  simp only [opStrRep] at e
  split at e
  · rename_i z n
    split at e
    · rename_i c
      cases e
      simp only [Bool.and_eq_true, decide_eq_true_eq] at c
      obtain ⟨m, rfl⟩ := Int.eq_ofNat_of_zero_le c.1.1
      exact ⟨z, m, repE_str rx, repE_int ry, c.2, by omega, q G H _ (Evo.refl _ _ _ _) R (repE_strI)⟩
    · cases e
  · cases e
/-- a text within a text -/
@[simp] def cpNiS : Cp2 := fun x y _ => match x, y with
  | .v (.str i), .v (.str z) => some (!(!(Builtin.Str.occurrences z i 0 z.length 1).isEmpty))
  | _, _ => none
theorem cpNiS_ok : Cp2Ok X (fun x y H Q => ∃ i j, x = .str i ∧ y = .str j ∧ Q (.bl (!(!(Builtin.Str.occurrences j i 0 j.length 1).isEmpty))) H) cpNiS := by
  intro E s G M H H0 x y u v b Q R rx ry e q
  simp only [cpNiS] at e
  split at e
  · rename_i i z
    cases e
    exact ⟨i, z, repE_str rx, repE_str ry, q⟩
  · cases e
section
variable {a b c : Expr} {rest : List Expr} {f g l : Sm EV} {pos : Pos}
theorem fe_strRep (ha : FE X E W a f) (hb : FE X E W b g) : FE X E W (.BinOp a .Mult b pos) (e2 opStrRep f g) := fe_bin op_strRep opStrRep_ok ha hb
theorem fe_niS (ha : FE X E W a f) (hb : FE X E W b g) (hm : behindInMarks .NotIn b = false := by rfl) : FE X E W (.Compare a [.NotIn] [b] pos) (eB (b2 cpNiS f g)) := fe_cmp op_notin_str cpNiS_ok ha hb hm
theorem ft_niS (ha : FE X E W a f) (hb : FE X E W b g) (hm : behindInMarks .NotIn b = false := by rfl) : FT X E W (.Compare a [.NotIn] [b] pos) (b2 cpNiS f g) := ft_cmp op_notin_str cpNiS_ok ha hb hm
theorem fe_orT (h : FE X E W a f) (h' : FE X E W (.BoolOp .Or (b :: rest) pos) g) : FE X E W (.BoolOp .Or (a :: b :: rest) pos) (eOrT f g) := by
  refine ⟨PE.weak (pe_orT h.pe h'.pe) ?_⟩
  rintro s H Q ⟨G, M, R, h⟩
  refine tE_one R h fun G1 M1 H1 x u V1 R1 rx h1 => ?_
  split at h1
  · have e : u = .non := by
      have rx2 : RepV X.K G1 H1 .non u := rx
      simpa only [RepV] using rx2
    subst e
    exact ⟨false, rfl, iteF ⟨G1, M1, R1, tE_re V1 h1⟩⟩
  · rename_i xs
    obtain ⟨p, us, rfl, sq, rv, z⟩ := repE_tup rx
    have el : us.isEmpty = xs.isEmpty := by
      have := rv.length
      cases us <;> cases xs <;> simp_all
    refine ⟨!us.isEmpty, .inr (.inl ⟨us, sq, rfl⟩), ?_⟩
    rw [el]
    cases q : xs.isEmpty with
    | true =>
      rw [q, if_pos rfl] at h1
      exact iteF ⟨G1, M1, R1, tE_re V1 h1⟩
    | false =>
      rw [q, if_neg Bool.false_ne_true] at h1
      exact iteT (OutP.now h1 R1 _ rx)
  · exact h1.elim
end
end HF

end
section
set_option Elab.async false
set_option linter.all false
set_option maxRecDepth 20000
set_option autoImplicit false
/-! HF44: try: body, except X as n: suite, where the exception caught is a value that stays. -/
namespace L2
open PySem PySem.Spec PyProof.Rows
section
variable {X : Cx} {pins : List (Addr × Obj)} {σ : St} {H : Hp} {s : Shared}
/-- an object that nothing told of is told: it stays as it is -/
theorem Inv.adds (I : Inv X pins σ H s) {a : Addr} {oe : Obj} (he : s.heap.get? a = some oe) (na : H a = none) (n0 : X.s_0.heap.get? a = none) (nL : a ≠ X.env.locals)
    (nC : ∀ x c, X.env.cells.lookup x = some c → c ≠ a) (np : ∀ p ∈ X.pn ++ pins, p.1 ≠ a) : Inv X pins σ (upd H a (.frz oe (.own a))) s := by
  refine ⟨I.ok, I.os, I.bare, ⟨I.base.keep, I.base.slot, fun b o e n hx => ?_, I.base.there, fun b xs q => ?_, fun b o u q => ?_, fun b ps q => ?_⟩, I.loc, I.cell, ?_, fun x c e => ?_, fun p hp => ?_, fun b u e => ?_, I.len⟩
  · have : b ≠ a := fun z => by rw [z, n0] at e; cases e
    rw [upd_ne this]; exact I.base.free b o e n hx
  · have h := I.base.tups b xs q
    rw [upd_ne (ne_of_none h na)]; exact h
  · have h := I.base.frzs b o u q
    rw [upd_ne (ne_of_none h na)]; exact h
  · obtain ⟨m, h⟩ := I.base.tbls b ps q
    exact ⟨m, by rw [upd_ne (ne_of_none h na)]; exact h⟩
  · rw [upd_ne (Ne.symm nL)]; exact I.free
  · rw [upd_ne (nC x c e)]; exact I.freeC x c e
  · obtain ⟨h1, h2, h3⟩ := I.pin p hp
    exact ⟨h1, by rw [upd_ne (np p hp)]; exact h2, h3⟩
  · by_cases hb : b = a
    · subst hb; rw [upd_same] at e; cases e; exact ⟨he, ⟨oe, he⟩⟩
    · rw [upd_ne hb] at e
      exact (I.hok b u e).stay (fun c v _ q => q) (fun c q => by rw [upd_ne (ne_of_none q na)]; exact q) fun c xs q => by rw [upd_ne (ne_of_none q na)]; exact q
theorem Inv.suite0 (I : Inv X pins σ H s) (a : Addr) : Inv (X.suite a (X.pn ++ pins)) [] σ H s :=
  ⟨I.ok.suite _ _, I.os, I.bare, I.base, I.loc, I.cell, I.free, I.freeC, fun p hp => I.pin p (by rw [List.append_nil] at hp; exact hp), I.hok, I.len⟩
theorem Inv.unsuite0 {a : Addr} {pn' : List (Addr × Obj)} (I : Inv (X.suite a (X.pn ++ pins)) pn' σ H s) (ok : X.Ok) : Inv X pins σ H s :=
  ⟨ok, I.os, I.bare, I.base, I.loc, I.cell, I.free, I.freeC, fun p hp => I.pin p (List.mem_append_left _ hp), I.hok, I.len⟩
end
def wAsH (K : PySem.W.Frag) (c : Value) (i : Nat) (ts : Addr → TS) (Wout : WX) (D : Ends) : WX := fun cls d σ H =>
  ∃ b, PySem.W.exmOne K cls c = some b ∧ (b = true → ∀ a oe, H a = none → Zc cls d oe → (∃ vs, oe.data = .fields vs) → ts a { nx := fun σ' H' => D.nx (σ'.set i none) H', rt := D.rt, bk := fun σ' H' => D.bk (σ'.set i none) H', ct := fun σ' H' => D.ct (σ'.set i none) H' } (σ.set i (some (.ref a))) (upd H a (.frz oe (.own a)))) ∧
    (b = false → Wout cls d σ H)
section
variable {X : Cx} {x n : Str} {c : Value} {i : Nat} {body suite : List Stmt} {b₀ : Stmt} {np pos pos' : Pos} {tb : WX → TS} {ts : Addr → TS} {Wout : WX}
theorem ps_try_asH (hs : X.stack = X.env :: X.outer) (hf : X.env.frame = some X.env.locals) (hex : X.ex = []) (hN : X.N.Nodup) (hi : X.N[i]? = some n) (hln : X.env.kindOf n = some .local) (hc : Names X x c) (tk : Takes X Wout)
    (hb : ∀ (W : WX) (pn : List (Addr × Obj)) (xe : Value → Shared → Prop), Takes (X.tr pn xe) W → PassesOwn (model X.prog X.w) X.A X.env xe → PSs (X.tr pn xe) body (tb W))
    (hsu : ∀ (a : Addr) (pn : List (Addr × Obj)), PSs (X.suite a pn) (b₀ :: suite) (ts a)) :
    PS X (.Try body [.ExceptHandler (some (.Name x np)) (some n) (b₀ :: suite) pos'] [] [] pos) (fun D σ H => tb (wAsH X.K c i ts Wout D) D σ H) := by
  refine ⟨fun pins s σ H D I h => ?_⟩
  have ok := I.ok
  have hfr : X.A.frames = some (X.env :: X.outer) := by rw [ok.frames, hs]
  have hloc : Loc X.env.scope n := .inl hln
  refine wpAny_Try_except ?_
  refine wpAny_mono ((hb (wAsH X.K c i ts Wout D) (X.pn ++ pins) (fun e s₁ => wpAny (model X.prog X.w) X.A (noteFrame e X.env) (fun _ s₂ => wpAny (model X.prog X.w) X.A (setFlight e none) (fun _ s₃ =>
    wpAny (model X.prog X.w) X.A (handleBy e X.env [.ExceptHandler (some (.Name x np)) (some n) (b₀ :: suite) pos']) (SP X pins D) X.xe s₃) X.xe s₂) X.xe s₁) (fun u s' xx => ?_) PassesOwn.looking).run [] s σ H D (I.toTry _) h) (fun f s1 hsp => ?_) (fun e s1 he => he)
  · -- the catch
    obtain ⟨a, B, sI, pins', σ', H', cls, d, rfl, J', nb, up, sky, na, os, ag, b, hb1, hyes, hno⟩ := xx
    have J : Inv X pins σ' H' sI := J'.ofTry ok
    have sky' : Sky B (X.env :: X.outer) a (Zc cls d) X.env.locals s'.heap := by rw [← hs]; exact sky
    show wpAny (model X.prog X.w) X.A (noteFrame (.ref a) X.env) _ _ _
    refine Sky.land Zc.steady hfr hf sky' fun h3 fl3 up3 => ?_
    have J3 : Inv X pins σ' H' { s' with heap := h3 } := J.landed nb fl3.1 (up.trans up3) os ag
    obtain ⟨oe3, vs3, he3, hz3, hd3⟩ := fl3.there
    have notFr : ∀ {h : Heap} {o : Obj} {vs : Array Value}, h.FunFrames B (X.env :: X.outer) → h.get? a = some o → o.data = .fields vs → a ∉ frs (X.env :: X.outer) := fun {h o vs} ff e dd hm => by
      obtain ⟨_, o', e', hnf⟩ := ff.mem hm
      rw [e] at e'; cases e'
      exact hnf _ dd
    have nfr := notFr fl3.2.2.1 he3 hd3
    have nB : B.get? a = none := fl3.2.1
    have nL : a ≠ X.env.locals := fun z => nfr (List.mem_filterMap.mpr ⟨X.env, List.mem_cons_self, by rw [hf, z]⟩)
    have nF : a ∉ X.fs := fun hm => by
      obtain ⟨e, he, q⟩ := List.mem_filterMap.mp hm
      exact nfr (List.mem_filterMap.mpr ⟨e, List.mem_cons_of_mem _ he, q⟩)
    have nI : sI.heap.get? a = none := by
      cases q : sI.heap.get? a with
      | none => rfl
      | some o => have := nb a o q (by rw [hs]; exact nfr); rw [nB] at this; cases this
    have n0 : X.s_0.heap.get? a = none := by
      cases q : X.s_0.heap.get? a with
      | none => rfl
      | some o =>
        obtain ⟨o', e'⟩ := J.base.there a o q (by rw [hex]; simp)
        rw [nI] at e'; cases e'
    have nC : ∀ y c, X.env.cells.lookup y = some c → c ≠ a := fun y c e z => by
      obtain ⟨v, o, e1, _⟩ := J.cell y c e
      rw [z, nI] at e1; cases e1
    have nP : ∀ p ∈ X.pn ++ pins, p.1 ≠ a := fun p hp z => by
      obtain ⟨e1, _⟩ := J.pin p hp
      rw [z, nI] at e1; cases e1
    have S3 := J3.suite he3 hd3 na nL nF
    refine wpAny_handleBy_cons (codeAny_handlers_test ?_) (by intro q; cases q)
    have LT : PySem.W.Looks (model X.prog X.w) h3 (typeOf (.ref a)) cls := fun A Q E s k q => wpAny_typeOf_ref (k _ _ he3) (by rw [hz3.1]; exact q)
    have LM := PySem.W.exm_one (M := model X.prog X.w) (J3.kIn) LT hb1
    have test : ∀ {Q : Value → Shared → Prop} {E : Value → Shared → Prop}, Q c { s' with heap := h3 } → wpAny (model X.prog X.w) (X.A.mark (some (.ref a))) (eval (.Name x np) X.env) Q E { s' with heap := h3 } := fun {Q E} q => by
      obtain ⟨hg, hdbg, hm | ⟨hm, hv, hnn⟩⟩ := hc
      · exact ld_glob (X := X.suite a ((a, oe3) :: (X.pn ++ pins))) S3 hg hm q hdbg
      · exact ld_blt (X := X.suite a ((a, oe3) :: (X.pn ++ pins))) S3 hg hm hv q hnn hdbg
    refine test (LM.here ?_)
    cases b with
    | true =>
      refine codeAny_handlers_suite_as ?_
      refine HandSPX.lands_againZ fl3 fun h4 fl4 up4 => ?_
      have J4 : Inv X pins σ' H' { s' with heap := h4 } := J.landed nb fl4.1 ((up.trans up3).trans up4) os ag
      obtain ⟨oe4, vs4, he4, hz4, hd4⟩ := fl4.there
      have J5 := J4.adds (oe := oe4) he4 na n0 nL nC nP
      have S4 := J5.suite0 a
      refine store_ok (X := X.suite a (X.pn ++ pins)) (v := .ref a) S4 hN hi hloc rfl (fun s5 S5 => ?_) (.inr hln)
      refine wpAny_mono ((hsu a (X.pn ++ pins)).run [] s5 _ _ _ S5 (hyes rfl a oe4 na hz4 ⟨_, hd4⟩)) (fun f s6 hsp => ?_) (fun _ _ z => False.elim z)
      have end_ : ∀ {σ6 : St} {H6 : Hp} {Q : Shared → Prop}, Inv (X.suite a (X.pn ++ pins)) [] σ6 H6 s6 → (∀ s7, Inv X pins (σ6.set i none) H6 s7 → Q s7) →
          wpAny (model X.prog X.w) X.A (do bindName X.env n .none; unbindBehindTheSuite X.env n pos') (fun _ s7 => Q s7) X.xe s6 := fun {σ6 H6 Q} S6 hq => gone_ok (S6.unsuite0 ok) hN hi hln hq
      cases f with
      | next =>
        obtain ⟨σ6, H6, S6, q6⟩ := hsp
        exact end_ S6 fun s7 J7 => ⟨_, _, J7, q6⟩
      | brk =>
        obtain ⟨σ6, H6, S6, q6⟩ := hsp
        exact end_ S6 fun s7 J7 => ⟨_, _, J7, q6⟩
      | cont =>
        obtain ⟨σ6, H6, S6, q6⟩ := hsp
        exact end_ S6 fun s7 J7 => ⟨_, _, J7, q6⟩
      | ret u =>
        obtain ⟨v6, σ6, H6, S6, r6, q6⟩ := hsp
        exact end_ S6 fun s7 J7 => ⟨_, _, _, J7, r6, q6⟩
    | false =>
      show wpAny _ X.A (handleBy (.ref a) X.env []) _ _ _
      refine wpAny_handleBy_nil ?_
      obtain ⟨k1, k2, k3, oe, vs, T, oT, ts', he, hz, hd, h1, hr⟩ := id fl3
      unfold PySem.passOn
      refine wpAny_bind (wpAny_field he hd h1 ?_)
      rw [if_neg (show ¬ ((Value.ref T == Value.none) = true) from by simp)]
      have fin : wpAny (model X.prog X.w) X.A (setFlight (.ref a) X.env.frame) (fun _ s4 => wpAny (model X.prog X.w) X.A (throw (.ref a) : Sem Flow) (SP X pins D) X.xe s4) X.xe { s' with heap := h3 } := by
        rw [hf]
        refine HandSPX.setFlight_upZ fl3 fun h4 hh4 up4 => wpAny_throw (tk _ _ ?_)
        exact ⟨a, B, sI, pins, σ', H', cls, d, rfl, J, nb, (up.trans up3).trans up4, .inr (.inr (by rw [hs]; exact hh4)), na, os, ag, hno rfl⟩
      first
        | exact wpAny_bind (wpAny_pure (wpAny_bind fin))
        | exact wpAny_bind fin
  · cases f with
    | next =>
      obtain ⟨σ', H', J', q⟩ := hsp
      exact wpAny_execs_nil ⟨σ', H', J'.ofTry ok, q⟩
    | brk =>
      obtain ⟨σ', H', J', q⟩ := hsp
      exact ⟨σ', H', J'.ofTry ok, q⟩
    | cont =>
      obtain ⟨σ', H', J', q⟩ := hsp
      exact ⟨σ', H', J'.ofTry ok, q⟩
    | ret u =>
      obtain ⟨v, σ', H', J', r, q⟩ := hsp
      exact ⟨v, σ', H', J'.ofTry ok, r, q⟩
end
/-- isinstance of an exception that stays, one class -/
def rIsX (K : PySem.W.Frag) : List V → Hp → VK → Prop := fun xs H Q => ∃ (a D : Addr) (oe : Obj) (c : V) (cv : Value) (b : Bool), xs = [.ref a, c] ∧ H a = some (.frz oe (.own a)) ∧ Zc (.ref D) none oe ∧ (∃ vs, oe.data = .fields vs) ∧ ExcC K D ∧ ClsV c cv ∧ PySem.W.kitAny K (.ref D) [cv] = some b ∧ Q (.bl b) H
theorem kitOne_any {K : PySem.W.Frag} {t c : Value} {b : Bool} (h : PySem.W.kitAny K t [c] = some b) : PySem.W.kitOne K t c = some b := by
  unfold PySem.W.kitAny at h
  split at h
  · rename_i e; cases h; exact e
  · rename_i e
    have : PySem.W.kitAny K t [] = some false := rfl
    rw [this] at h; cases h; exact e
  · cases h
theorem instX {K : PySem.W.Frag} {h : Heap} {a D : Addr} {oe : Obj} (hget : h.get? a = some oe) (hz : Zc (.ref D) none oe) (hf : ∃ vs, oe.data = .fields vs) : PySem.W.InstAt h a oe D none := by
  obtain ⟨vs, h3⟩ := hf
  obtain ⟨oc, od, oda, osl⟩ := oe
  obtain ⟨h1, h2⟩ := hz
  dsimp only at h1 h2 h3
  subst h1 h2 h3
  exact ⟨hget, rfl, rfl, trivial⟩
theorem call_isX {X : Cx} : CallR X (.builtin "isinstance") (rIsX X.K) := by
  intro pins s σ H xs us Q I r h
  obtain ⟨a, D, oe, c, cv, b, rfl, ha, hz, hf, C, k, e, q⟩ := h
  obtain ⟨u1, u2, rfl, r1, r2⟩ := vals2 r
  cases (show u1 = Value.ref a from r1)
  have e2 := k.eq r2
  subst e2
  obtain ⟨hget, _⟩ := (show ObjOk X.prog X.w H s.heap a (.frz oe (.own a)) from I.hok a _ ha)
  exact PySem.W.kia_one (PySem.W.handS_kitx_exc C.hg C.hk C.hs C.hd C.ha C.hn C.ht C.hm) I.kIn (instX (K := X.K) hget hz hf) (kitOne_any e) (fun z => nomatch z) fun tk => ⟨.bl b, H, I.tok tk, rfl, q⟩
/-- .. a tuple of classes that was just laid -/
def rIsXT (K : PySem.W.Frag) : List V → Hp → VK → Prop := fun xs H Q => ∃ (a D tp : Addr) (oe : Obj) (cs : List V) (ws : List Value) (b : Bool), xs = [.ref a, .ref tp] ∧ H tp = some (.tup cs) ∧ Paired ClsV cs ws ∧ H a = some (.frz oe (.own a)) ∧ Zc (.ref D) none oe ∧ (∃ vs, oe.data = .fields vs) ∧ ExcC K D ∧ PySem.W.kitAny K (.ref D) ws = some b ∧ Q (.bl b) H
theorem call_isXT {X : Cx} : CallR X (.builtin "isinstance") (rIsXT X.K) := by
  intro pins s σ H xs us Q I r h
  obtain ⟨a, D, tp, oe, cs, ws, b, rfl, hT, k, ha, hz, hf, C, e, q⟩ := h
  obtain ⟨u1, u2, rfl, r1, r2⟩ := vals2 r
  cases (show u1 = Value.ref a from r1)
  cases (show u2 = Value.ref tp from r2)
  obtain ⟨hget, _⟩ := (show ObjOk X.prog X.w H s.heap a (.frz oe (.own a)) from I.hok a _ ha)
  obtain ⟨_, its, rv, o, h1, h2, n, h3⟩ := (show ObjOk X.prog X.w H s.heap tp (.tup cs) from I.hok tp _ hT)
  have e3 := ClsV.all k rv
  subst e3
  obtain ⟨oc, od, dt, sl⟩ := o
  simp only at h2 h3
  subst h2 h3
  exact PySem.W.kia_tup (PySem.W.handS_kitx_exc C.hg C.hk C.hs C.hd C.ha C.hn C.ht C.hm) I.kIn (instX (K := X.K) hget hz hf) h1 e (fun z => nomatch z) fun tk => ⟨.bl b, H, I.tok tk, rfl, q⟩
end L2

end
section
set_option Elab.async false
set_option linter.all false
set_option maxRecDepth 20000
set_option autoImplicit false
/-! HF45: raise, try, isinstance of exceptions. -/
namespace HF
open PySem PySem.Spec PyProof.Rows L2
/-- an own exception class of the module -/
structure ExcAt (Z : Wd) (c : Str) (C : Addr) : Prop where
  mg : Z.mg c = some (.ref C)
  ns : PySem.W.nsIn Z.K mainGlobals c = some (some (.ref C))
/-- .. that may be made and raised -/
structure RaiseAt (Z : Wd) (c : Str) : Prop where
  ok : ∃ C, ExcAt Z c C ∧ PySem.W.excIn Z.K C [.type "ValueError", .type "Exception", .type "BaseException", .type "object"] "ValueError.__new__" = true ∧ PySem.W.keepIn Z.K (.ref C) = true ∧ PySem.W.subIn Z.K (.ref C) (.type "BaseException") = some true ∧ PySem.W.typeIn Z.K (.ref C) = some (.type "type")
/-- the class x catches these -/
structure CatchAt (Z : Wd) (x : Str) (subs : List Str) : Prop where
  ok : ∃ CX, Z.mg x = some (.ref CX) ∧ ∀ c ∈ subs, ∃ C, ExcAt Z c C ∧ PySem.W.exmOne Z.K (.ref C) (.ref CX) = some true
/-- a class's name -/
def ClsAt (Z : Wd) (x : Str) (u : Value) : Prop := (∃ D, u = .ref D ∧ Z.mg x = some (.ref D)) ∨ ∃ T, u = .type T ∧ Z.mg x = none ∧ bootBuiltins x = some (.type T)
/-- what isinstance says of exceptions -/
structure IsAt (Z : Wd) (xs : List Str) (tb : List (Str × Bool)) : Prop where
  ok : ∃ us, Paired (ClsAt Z) xs us ∧ ∀ p ∈ tb, ∃ C, ExcAt Z p.1 C ∧ ExcC Z.K C ∧ PySem.W.kitAny Z.K (.ref C) us = some p.2
def sRaise (c : Str) : Ss := fun M => .exn c M
def sTry (i : Nat) (subs : List Str) (b h : Ss) : Ss := fun M => match b M with
  | .exn c M1 => if c ∈ subs then (match h ⟨M1.r.set i (some (.v (.exc c))), M1.h⟩ with
    | .nx M2 => .nx ⟨M2.r.set i none, M2.h⟩
    | .brk M2 => .brk ⟨M2.r.set i none, M2.h⟩
    | .cnt M2 => .cnt ⟨M2.r.set i none, M2.h⟩
    | _ => .bad) else .bad
  | r => r
/-- what is known where code runs behind an exception -/
structure AmbB (Z : Wd) (X : Cx) (N : List Str) (sc : Scope) (fs : Str → Bool) : Prop where
  hN : X.N = N
  fn : X.fn = fs
  same : X.prog = Z.P ∧ X.w = Z.w ∧ X.K = Z.K ∧ X.mg = Z.mg ∧ X.base = Z.base
  hs : X.env.scope = sc
  nd : N.Nodup
  room : X.A.units + 64 < cLine
section
variable {X : Cx} {E : Ent} {W : WX} {N : List Str} {sc : Scope} {fs : Str → Bool} {k : Nat} {Z : Wd}
theorem Amb.b (A : Amb Z X W N sc fs k) : AmbB Z X N sc fs := ⟨A.hN, A.fn, A.same, A.hs, A.nd, A.u64⟩
theorem AmbB.gl (A : AmbB Z X N sc fs) {x : Str} (h : sc.names.lookup x = some .globalImplicit) : Gl X x := by
  show X.env.scope.names.lookup x = _
  rw [A.hs]; exact h
theorem fe_varB (A : AmbB Z X N sc fs) {i : Nat} {x : Str} {pos : Pos} (hN : N[i]? = some x) (hv : visB sc x = true) (hd : (x == ("__debug__" : Str)) = false := by decide) (hcd : (x == ("__classdict__" : Str)) = false := by decide) : FE X E W (.Name x pos) (eVar i) := by
  refine ⟨PE.weak (pe_var (i := i) (by rw [A.hN]; exact hN) (by rw [A.hs]; exact vis_of hv) hd hcd) ?_⟩
  rintro s H Q ⟨G, M, R, h⟩
  simp only [eVar] at h
  split at h
  · rename_i p e
    obtain ⟨u, e1, r⟩ := R.slot i p (slotAt_some e)
    exact ⟨u, e1, h.now R u r⟩
  · rename_i o e
    obtain ⟨a, u, e1, h1, _⟩ := R.own i o (slotAt_some e)
    exact ⟨.ref a, e1, h.now R (.ref a) e1⟩
  · exact False.elim h
theorem locB_fnB (A : AmbB Z X N sc fs) {x : Str} (h : locB sc fs x = true) : X.fn x = true ∨ X.env.scope.names.lookup x = some .local := by
  unfold locB at h
  split at h
  · rename_i e; exact .inr (by rw [A.hs]; exact e)
  · exact .inl (by rw [A.fn]; exact h)
  · cases h
theorem fs_setB (A : AmbB Z X N sc fs) {x : Str} {i : Nat} {e : Expr} {pos pos' : Pos} {f : Sm PV} (hN : N[i]? = some x) (hl : locB sc fs x = true) (he : FP X E W e f) (hs : swapsWith e (some (.Name x pos')) pos.line X.env = pure false := by rfl) : FS X E W (.Assign [.Name x pos'] e pos) (sSet i f) :=
  ⟨PS.weak (ps_set (by rw [A.hN]; exact A.nd) (by rw [A.hN]; exact hN) (by rw [A.hs]; exact locB_loc hl) he.pe hs (locB_fnB A hl)) fun _ _ _ h => set_tP h⟩
theorem fs_ownB (A : AmbB Z X N sc fs) {x : Str} {i : Nat} {e : Expr} {pos pos' : Pos} {f : Sm EV} (hN : N[i]? = some x) (hl : locB sc fs x = true) (he : FE X E W e f) (hs : swapsWith e (some (.Name x pos')) pos.line X.env = pure false := by rfl) : FS X E W (.Assign [.Name x pos'] e pos) (sOwn i f) :=
  ⟨PS.weak (ps_set (by rw [A.hN]; exact A.nd) (by rw [A.hN]; exact hN) (by rw [A.hs]; exact locB_loc hl) he.pe hs (locB_fnB A hl)) fun _ _ _ h => set_tE h⟩
/-- raise C('..') -/
theorem fs_raise (A : Amb Z X W N sc fs k) {x m : Str} {j : Nat} {p p2 p3 pos : Pos} (h : RaiseAt Z x) (hg : sc.names.lookup x = some .globalImplicit := by rfl) (hdb : (x == ("__debug__" : Str)) = false := by decide) : FS X E W (.Raise (some (.Call (.Name x p) [.Constant (.str m) j p2] [] p3)) none pos) (sRaise x) := by
  obtain ⟨C, c, h1, h2, h3, h4⟩ := h.ok
  obtain ⟨s1, s2, s3, s4, s5⟩ := A.same
  refine ⟨PS.weak (ps_raise A.calm A.tk (pmk_own PySem.F.excBase_ValueError (by rw [s3]; exact h1) (by rw [s4]; exact c.mg) (by rw [s3]; exact h2) (raises_own (by rw [s3]; exact h3) (by rw [s3]; exact h4)) (A.gl hg) hdb)) ?_⟩
  rintro D s H ⟨G, M, R, hh⟩
  exact hh G s H C (Ext.refl _ _) R (by rw [s4]; exact c.mg)
theorem exc_rep {K : PySem.W.Frag} {G : Gh} {H : Hp} {c : Str} {C a : Addr} {oe : Obj} (n : PySem.W.nsIn K mainGlobals c = some (some (.ref C))) (f : G.F a) (h : H a = some (.frz oe (.own a))) (z : Zc (.ref C) none oe) (d : ∃ vs, oe.data = .fields vs) : RepV K G H (.exc c) (.ref a) := by
  simp only [RepV]
  exact ⟨a, rfl, f, oe, C, h, z, d, n⟩
/-- the slot of the exception's name goes -/
theorem StRep.slotGone {K : PySem.W.Frag} {G : Gh} {M : Mem} {s : L2.St} {H : Hp} (R : StRep K E G M s H) (i : Nat) : StRep K E G ⟨M.r.set i none, M.h⟩ (s.set i none) H := by
  have lk : ∀ (j : Nat) (x : LV), (M.r.set i none)[j]? = some (some x) → M.r[j]? = some (some x) ∧ (s.set i none)[j]? = s[j]? := fun j x e => by
    by_cases z : i = j
    · subst z
      by_cases lt : i < M.r.length
      · rw [List.getElem?_set_self lt] at e; cases e
      · rw [List.getElem?_eq_none (by simpa using lt)] at e; cases e
    · rw [List.getElem?_set_ne z] at e
      exact ⟨e, List.getElem?_set_ne z⟩
  refine ⟨R.post, R.hp, by simpa using R.len, fun j p e => ?_, fun j o e => ?_, fun j l o o' a e1 e2 e3 e4 => ?_⟩
  · obtain ⟨h1, h2⟩ := lk j _ e
    obtain ⟨u, e1, r⟩ := R.slot j p h1
    exact ⟨u, by rw [h2]; exact e1, r⟩
  · obtain ⟨h1, h2⟩ := lk j _ e
    obtain ⟨a, u, e1, r⟩ := R.own j o h1
    exact ⟨a, u, by rw [h2]; exact e1, r⟩
  · obtain ⟨h1, h2⟩ := lk j _ e1
    obtain ⟨h3, h4⟩ := lk l _ e2
    rw [h2] at e3; rw [h4] at e4
    exact R.sep j l o o' a h1 h3 e3 e4
abbrev W00 : WX := fun _ _ _ _ => False
/-- try: body, except x as n: suite -/
theorem fs_try (A : Amb Z X W N sc fs k) (FR : X.stack = X.env :: X.outer ∧ X.env.frame = some X.env.locals ∧ X.ex = []) {x n : Str} {i : Nat} {subs : List Str} {body suite : List Stmt} {b₀ : Stmt} {b h : Ss} {np pos pos' : Pos}
    (hc : CatchAt Z x subs) (hN : N[i]? = some n) (hl : sc.names.lookup n = some .local) (hg : sc.names.lookup x = some .globalImplicit) (hdb : (x == ("__debug__" : Str)) = false)
    (hb : ∀ X' W', Amb Z X' W' N sc fs k → (X'.stack = X'.env :: X'.outer ∧ X'.env.frame = some X'.env.locals ∧ X'.ex = []) → FSs X' E W' body b)
    (hh : ∀ X', AmbB Z X' N sc fs → FSs X' E W00 (b₀ :: suite) h) :
    FS X E W (.Try body [.ExceptHandler (some (.Name x np)) (some n) (b₀ :: suite) pos'] [] [] pos) (sTry i subs b h) := by
  obtain ⟨CX, c1, c2⟩ := hc.ok
  obtain ⟨s1, s2, s3, s4, s5⟩ := A.same
  refine ⟨PS.weak (ps_try_asH (i := i) (c := .ref CX) (tb := fun W' => tS X E W' b) (ts := fun a => tS X E W00 h) FR.1 FR.2.1 FR.2.2 (by rw [A.hN]; exact A.nd) (by rw [A.hN]; exact hN) (by show X.env.scope.names.lookup n = _; rw [A.hs]; exact hl) ⟨A.gl hg, hdb, .inl (by rw [s4]; exact c1)⟩ A.tk
    (fun W' pn xe tk po => (hb (X.tr pn xe) W' ⟨A.hN, A.fn, A.same, A.hs, A.nd, A.calm, A.room, tk, po⟩ FR).ps)
    (fun a pn => (hh (X.suite a pn) ⟨A.hN, A.fn, A.same, A.hs, A.nd, A.u64⟩).ps)) ?_⟩
  rintro D s H ⟨G, M, R, q⟩
  refine ⟨G, M, R, ?_⟩
  unfold sTry at q
  generalize b M = r at q
  cases r with
  | nx M1 => exact q
  | ret e M1 => exact q
  | brk M1 => exact q
  | cnt M1 => exact q
  | bad => exact q
  | exn c M1 =>
    intro G1 s1' H1 C x1 R1 hm
    simp only at q
    split at q
    · rename_i mem
      obtain ⟨C', ea, ex⟩ := c2 c mem
      have eC : C = C' := by
        rw [s4, ea.mg] at hm
        cases hm; rfl
      subst eC
      refine ⟨true, by rw [s3]; exact ex, fun _ a oe na hz hf => ?_, fun z => by cases z⟩
      obtain ⟨R2, V2, eh, nf, nl, no⟩ := R1.laid (.frz oe (.own a)) na
      have R3 := R2.frozen (upd_same) eh nl no (u := .frz oe (.own a)) ⟨fun _ z => (nomatch z), fun _ z => (nomatch z)⟩
      have x3 : Ext G1 H1 (G1.fz a) (upd H1 a (.frz oe (.own a))) := V2.ext.trans (G1.ext_fz _ a)
      have R4 := R3.setV i (exc_rep (c := c) (C := C) (by rw [s3]; exact ea.ns) (.inr rfl) upd_same hz hf)
      refine ⟨G1.fz a, _, R4, ?_⟩
      generalize h ⟨M1.r.set i (some (.v (.exc c))), M1.h⟩ = z at q
      cases z with
      | nx M2 => exact fun G' s' H' x R' => q G' _ H' ((x1.trans x3).trans x) (R'.slotGone i)
      | brk M2 => exact fun G' s' H' x R' => q G' _ H' ((x1.trans x3).trans x) (R'.slotGone i)
      | cnt M2 => exact fun G' s' H' x R' => q G' _ H' ((x1.trans x3).trans x) (R'.slotGone i)
      | ret e M2 => exact q.elim
      | exn c' M2 => exact q.elim
      | bad => exact q.elim
    · exact q.elim
/-- isinstance(e, C) of an exception; xs: the classes; tb: what it says of which -/
@[simp] def opIsx (tb : List (Str × Bool)) : Op1 := fun x _ => match x with
  | .v (.exc c) => (tb.find? fun p => decide (p.1 = c)).map fun p => .v (.bl p.2)
  | _ => none
theorem exc_at {H0 : Hp} {G : Gh} {M : Mem} {s : L2.St} {H : Hp} {c : Str} {u : V} (R : StRep X.K E G M s H) (r : RepE X.K E H0 G M s H (.v (.exc c)) u) : ∃ a oe C, u = .ref a ∧ H a = some (.frz oe (.own a)) ∧ Zc (.ref C) none oe ∧ (∃ vs, oe.data = .fields vs) ∧ PySem.W.nsIn X.K mainGlobals c = some (some (.ref C)) := by
  have r : RepV X.K G H (.exc c) u := r
  simp only [RepV] at r
  obtain ⟨a, rfl, f, oe, C, h, z, d, n⟩ := r
  exact ⟨a, oe, C, rfl, h, z, d, n⟩
theorem ClsAt.v {x : Str} {u : Value} (h : ClsAt Z x u) : ∃ v, ClsV v u := by
  rcases h with ⟨D, rfl, _⟩ | ⟨T, rfl, _⟩
  · exact ⟨.ref D, .own D⟩
  · exact ⟨.ty T, .ty T⟩
theorem pe_cls (A : AmbB Z X N sc fs) {x : Str} {u : Value} {v : V} {pos : Pos} (h : ClsAt Z x u) (hv : ClsV v u) (hg : sc.names.lookup x = some .globalImplicit) (hn : x ≠ "__name__") (hd : (x == ("__debug__" : Str)) = false) : PE X (.Name x pos) (tC v) := by
  have s4 := A.same.2.2.2.1
  rcases h with ⟨D, rfl, m⟩ | ⟨T, rfl, m, b⟩
  · cases hv
    exact pe_glob (A.gl hg) (by rw [s4]; exact m) rfl hd
  · cases hv
    exact pe_bltn (A.gl hg) (by rw [s4]; exact m) b rfl hn hd
theorem isx_look {tb : List (Str × Bool)} {us : List Value} (h : ∀ p ∈ tb, ∃ C, ExcAt Z p.1 C ∧ ExcC Z.K C ∧ PySem.W.kitAny Z.K (.ref C) us = some p.2) {c : Str} {p : Str × Bool} (e : tb.find? (fun p => decide (p.1 = c)) = some p) {C : Addr} (n : PySem.W.nsIn Z.K mainGlobals c = some (some (.ref C))) : ExcC Z.K C ∧ PySem.W.kitAny Z.K (.ref C) us = some p.2 := by
  have h1 := List.find?_some e
  simp only [decide_eq_true_eq] at h1
  obtain ⟨C', a1, a2, a3⟩ := h p (List.mem_of_find?_eq_some e)
  have : C' = C := by
    have := a1.ns
    rw [h1, n] at this
    cases this; rfl
  subst this
  exact ⟨a2, a3⟩
theorem fe_isx (A : AmbB Z X N sc fs) {x : Str} {tb : List (Str × Bool)} {e : Expr} {f : Sm EV} {p p2 pos : Pos} (hm : Z.mg ("isinstance" : Str) = none) (h : IsAt Z [x] tb) (he : FE X E W e f) (hg : sc.names.lookup ("isinstance" : Str) = some .globalImplicit := by rfl) (hgx : sc.names.lookup x = some .globalImplicit := by rfl)
    (hn : x ≠ "__name__" := by decide) (hdb : (x == ("__debug__" : Str)) = false := by decide) (h1 : starEach [e, .Name x p2] X.env = (false, eval e X.env) :: starEach [.Name x p2] X.env := by rfl) : FE X E W (.Call (.Name "isinstance" p) [e, .Name x p2] [] pos) (e1 (opIsx tb) f) := by
  obtain ⟨us, pu, hk⟩ := h.ok
  cases pu with
  | cons hu pt =>
  cases pt
  rename_i u
  obtain ⟨v, hv⟩ := hu.v
  obtain ⟨s1, s2, s3, s4, s5⟩ := A.same
  refine ⟨PE.weak (pe_callB call_isX (A.gl hg) (by rw [s4]; exact hm) PyProof.Rows.boot_isinstance (pa_cons he.pe (pa_cons (pe_cls A hu hv hgx hn hdb) pa_nil) h1) (by decide) (by decide) h1) ?_⟩
  intro s H Q hh
  refine tE_op1 (r := fun w H Q => rIsX X.K [w, v] H Q) (fun E s G M H H0 y w ev Q R d ry ee q => ?_) hh
  simp only [opIsx] at ee
  split at ee
  · rename_i c
    cases e0 : tb.find? (fun p => decide (p.1 = c)) with
    | none => rw [e0] at ee; cases ee
    | some pp =>
      rw [e0] at ee
      cases ee
      obtain ⟨a, oe, C, rfl, ha, hz, hf, n⟩ := exc_at R ry
      rw [s3] at n
      obtain ⟨k1, k2⟩ := isx_look hk e0 n
      exact ⟨a, C, oe, v, u, pp.2, rfl, ha, hz, hf, by rw [s3]; exact k1, hv, by rw [s3]; exact k2, q G H _ (Evo.refl _ _ _ _) R repE_blI⟩
  · cases ee
/-- names of classes in a row -/
theorem pa_cls (A : AmbB Z X N sc fs) : ∀ {xs : List Str} {us : List Value} {vs : List V} (ps : List Pos), Paired (ClsAt Z) xs us → Paired ClsV vs us → (∀ x ∈ xs, sc.names.lookup x = some .globalImplicit ∧ x ≠ "__name__" ∧ (x == ("__debug__" : Str)) = false) → ps.length = xs.length →
    ∃ t : TA, PA X (List.zipWith (fun x p => Expr.Name x p) xs ps) t ∧ ∀ σ H (Q : List V → Hp → Prop), Q vs H → t σ H Q
  | [], _, _, [], .nil, .nil, _, _ => ⟨tNil, pa_nil, fun σ H Q q => q⟩
  | x :: xs, _, _, p :: ps, .cons h t, .cons k l, hx, hl => by
    obtain ⟨hg, hn, hd⟩ := hx x List.mem_cons_self
    obtain ⟨tt, pt, it⟩ := pa_cls A ps t l (fun y hy => hx y (List.mem_cons_of_mem _ hy)) (by simpa using hl)
    refine ⟨_, pa_cons (pe_cls A h k hg hn hd) pt rfl, fun σ H Q q => ?_⟩
    exact it σ H _ q
theorem paired_cls {xs : List Str} {us : List Value} (h : Paired (ClsAt Z) xs us) : ∃ vs, Paired ClsV vs us := by
  induction h with
  | nil => exact ⟨[], .nil⟩
  | cons a t ih =>
    obtain ⟨vs, h⟩ := ih
    obtain ⟨v, hv⟩ := ClsAt.v a
    exact ⟨v :: vs, .cons hv h⟩
def posOf : Expr → Pos
  | .Name _ p => p
  | _ => ⟨0, 0, 0, 0⟩
def gimB (sc : Scope) (x : Str) : Bool := match sc.names.lookup x with
  | some .globalImplicit => true
  | _ => false
theorem gim_of {sc : Scope} {x : Str} (h : gimB sc x = true) : sc.names.lookup x = some .globalImplicit := by
  unfold gimB at h
  split at h
  · assumption
  · cases h
def clsB (sc : Scope) (xs : List Str) : Bool := xs.all fun x => gimB sc x && (!decide (x = "__name__") && !(x == ("__debug__" : Str)))
theorem fe_isxT (A : AmbB Z X N sc fs) {xs : List Str} {es : List Expr} {tb : List (Str × Bool)} {e : Expr} {x1 : Nat} {f : Sm EV} {p p2 pos : Pos} (hm : Z.mg ("isinstance" : Str) = none) (h : IsAt Z xs tb) (he : FE X E W e f) (hg : sc.names.lookup ("isinstance" : Str) = some .globalImplicit := by rfl)
    (hx : clsB sc xs = true := by decide +kernel) (hes : es = List.zipWith (fun x p => Expr.Name x p) xs (es.map posOf) := by rfl) (hl : es.length = xs.length := by rfl) (hl2 : xs.length ≤ 1000 := by decide)
    (h1 : starEach [e, .Tuple es x1 p2] X.env = (false, eval e X.env) :: starEach [.Tuple es x1 p2] X.env := by rfl) : FE X E W (.Call (.Name "isinstance" p) [e, .Tuple es x1 p2] [] pos) (e1 (opIsx tb) f) := by
  obtain ⟨us, pu, hk⟩ := h.ok
  obtain ⟨vs, pv⟩ := paired_cls pu
  obtain ⟨s1, s2, s3, s4, s5⟩ := A.same
  have hx' : ∀ x ∈ xs, sc.names.lookup x = some .globalImplicit ∧ x ≠ "__name__" ∧ (x == ("__debug__" : Str)) = false := fun x hm' => by
    have := List.all_eq_true.mp hx x hm'
    simp only [Bool.and_eq_true, Bool.not_eq_true', decide_eq_false_iff_not] at this
    exact ⟨gim_of this.1, this.2.1, this.2.2⟩
  obtain ⟨t, pt, it⟩ := pa_cls A (es.map posOf) pu pv hx' (by simpa using hl)
  rw [← hes] at pt
  have vl : vs.length ≤ sizeLine := by
    have a1 := Paired.length pv
    have a2 := Paired.length pu
    rw [sizeLine_eq]; omega
  refine ⟨PE.weak (pe_callB call_isXT (A.gl hg) (by rw [s4]; exact hm) PyProof.Rows.boot_isinstance (pa_cons he.pe (pa_cons (pe_tup pt) pa_nil) h1) (by decide) (by decide) h1) ?_⟩
  intro s H Q hh
  refine tE_op1 (r := fun w H Q => tTup t s H fun y H2 => rIsXT X.K [w, y] H2 Q) (fun E s' G M H H0 y w ev Q R d ry ee q => ?_) hh
  simp only [opIsx] at ee
  split at ee
  · rename_i c
    cases e0 : tb.find? (fun p => decide (p.1 = c)) with
    | none => rw [e0] at ee; cases ee
    | some pp =>
      rw [e0] at ee
      cases ee
      obtain ⟨a, oe, C, rfl, ha, hz, hf, n⟩ := exc_at R ry
      rw [s3] at n
      obtain ⟨k1, k2⟩ := isx_look hk e0 n
      refine it s H _ ⟨vl, fun p hp => ?_⟩
      obtain ⟨R2, V2, _⟩ := R.laid (.tup vs) hp
      have na : a ≠ p := fun z => by rw [z, hp] at ha; cases ha
      exact ⟨a, C, p, oe, vs, us, pp.2, rfl, upd_same, pv, by rw [L2.upd_ne na]; exact ha, hz, hf, by rw [s3]; exact k1, by rw [s3]; exact k2, q G _ _ V2 R2 repE_blI⟩
  · cases ee
/-- the facts, out of what is known of the module -/
theorem excAt_mk {P : Program} {w : World} {K : PySem.W.Frag} {mg : Str → Option Value} {base h : Heap} {x : Str} {f : Addr} {T : List NdefX.NTab} (X : K.In h) (G : h.Ns mainGlobals mg) (a : PySem.W.nsIn K mainGlobals x = some (some (.ref f))) : ExcAt ⟨P, w, K, mg, base, T⟩ x f := ⟨PySem.W.mg_of X G a, a⟩
theorem def_okT {x qual : Str} {st : Stmt} {f : Addr} {fd : FuncData} {ps : List Str} {fb : Ss} (F : Fun Z.K x qual st f fd) (S : FnScope N ps (defScope st))
    (hb : ∀ X E W, Amb Z X W N (defScope st) (fun _ => true) k → E.T = Z.T → (X.stack = X.env :: X.outer ∧ X.env.frame = some X.env.locals ∧ X.ex = []) → FSs X E W (defBody st) fb) : FnOk Z.P Z.w Z.K Z.mg Z.base (L2.CX Z.P Z.w) (k + 1) f fd ps (spOf Z.T Z.K Z.mg (runDef ps.length N.length fb)) := by
  refine F.okX S (fun vs H Q Ex h => ?_) fun cdv A outer s H vs Q Ex hr h => ?_
  · obtain ⟨G, h, ps', hp, tb, r, q⟩ := h
    unfold runDef at q
    split at q
    · rename_i hl
      split at hl
      · rename_i z; rw [← r.length]; exact z
      · cases hl
    · rename_i hl
      split at hl
      · rename_i z; rw [← r.length]; exact z
      · cases hl
    · exact q.elim
  · obtain ⟨G, h, ps', hp, tb, r, q⟩ := h
    have hx : (cxOf (L2.CX Z.P Z.w) Z.P Z.w Z.K Z.mg Z.base N qual (defScope st) f cdv A outer s H Ex).xe = _ := rfl
    have amb : Amb Z (cxOf (L2.CX Z.P Z.w) Z.P Z.w Z.K Z.mg Z.base N qual (defScope st) f cdv A outer s H Ex) (fun c d _ H' => Ex c d H') N (defScope st) (fun _ => true) k :=
      ⟨rfl, rfl, ⟨rfl, rfl, rfl, rfl, rfl⟩, rfl, S.nd, rfl, hr, takes_of rfl rfl rfl rfl, passes_of rfl⟩
    refine ⟨_, (hb _ ⟨G, H, Z.T, tb⟩ _ amb rfl ⟨rfl, rfl, rfl⟩).ps, ?_⟩
    by_cases hl : ps'.length = ps.length
    · refine ⟨G, ⟨ps'.map (fun p => some (LV.v p)) ++ List.replicate (N.length - ps.length) none, h⟩, start_rep hp r tb hl rfl, ?_⟩
      unfold runDef at q
      rw [if_pos hl] at q
      generalize fb ⟨ps'.map (fun p => some (LV.v p)) ++ List.replicate (N.length - ps.length) none, h⟩ = z at q
      cases z with
      | nx M => exact fun G' s' H' x R' => q G' H' _ R'.post R'.hp (show RepV Z.K G' H' .non .non by simp only [RepV])
      | ret e M =>
        intro G' s' H' u R' ru
        cases e with
        | v p => exact q G' H' u R'.post R'.hp ru
        | fr o =>
          obtain ⟨a, w, e, h1, ro, hn, nf, nl, no, _⟩ := ru
          exact q G' H' u R'.post R'.hp ⟨a, w, e, h1, ro, hn, nf, nl⟩
        | sl i => exact q.elim
      | exn c M => exact fun G' s' H' C _ R' m => q G' H' C R'.post R'.hp m
      | brk M => exact q.elim
      | cnt M => exact q.elim
      | bad => exact q.elim
    · unfold runDef at q
      rw [if_neg hl] at q
      exact q.elim
end
end HF

end
section
set_option Elab.async false
set_option linter.all false
set_option maxRecDepth 20000
set_option autoImplicit false
/-! HF46: sorted(d) and list(d) of a dict by words; a list unpacked; == of lists of dicts (they agree). -/
namespace HF
open PySem PySem.Spec PyProof.Rows L2 HFS
def keyStrs : List Key → Option (List Str)
  | [] => some []
  | .inr w :: ks => (keyStrs ks).map (w :: ·)
  | .inl _ :: _ => none
theorem keyStrs_some : ∀ {ks : List Key} {ws : List Str}, keyStrs ks = some ws → ks = ws.map Sum.inr
  | [], ws, h => by cases h; rfl
  | .inr w :: ks, ws, h => by
    simp only [keyStrs] at h
    cases e : keyStrs ks with
    | none => rw [e] at h; cases h
    | some l => rw [e] at h; cases h; rw [keyStrs_some e]; rfl
  | .inl _ :: _, _, h => by cases h
section
variable {X : Cx} {E : Ent} {W : WX} {N : List Str} {sc : Scope} {fs : Str → Bool} {k : Nat} {Z : Wd}
@[simp] def opSortD : Op1 := fun x M => match asDct M x with
  | some (ks, _) => match keyStrs ks with
    | some ws => if ws.length < 64 then some (.fr (.lst ((srtS ws).map .str))) else none
    | none => none
  | none => none
theorem opSortD_ok : Op1Ok X (fun u H Q => ∃ (a : Addr) (kvs : List (Key × V)) (ks : List Str), [u] = [.ref a] ∧ Rd H a (.dK kvs) ∧ kvs.map (·.1) = ks.map Sum.inr ∧ ks.length < 64 ∧
    ∀ ys p, ys.Perm ks → sortedS ys = true → H p = none → Q (.ref p) (upd H p (.lst (ys.map V.str)))) opSortD := by
  intro E s G M H H0 x u ev Q R d rx e q
  simp only [opSortD] at e
  cases e1 : asDct M x with
  | none => rw [e1] at e; cases e
  | some kx =>
    obtain ⟨ks, xs⟩ := kx
    rw [e1] at e
    simp only at e
    cases e2 : keyStrs ks with
    | none => rw [e2] at e; cases e
    | some ws =>
      rw [e2] at e
      simp only at e
      split at e
      · rename_i z
        cases e
        obtain ⟨a, kvs, rfl, hr, hk, rr, z'⟩ := dct_of R rx e1
        refine ⟨a, kvs, ws, rfl, hr, by rw [hk, keyStrs_some e2], z, fun ys p pm so hp => ?_⟩
        have ey : ys = srtS ws := srt_unique pm (sortedS_pair ys so)
        subst ey
        obtain ⟨V1, R1, r1⟩ := rep_newlst (H0 := H0) R d (repVs_strs (srtS ws)) (by rw [List.length_map, srtS_len, sizeLine_eq]; omega) hp
        exact q G _ _ V1 R1 r1
      · cases e
theorem fe_sortD (A : Amb Z X W N sc fs k) {e : Expr} {f : Sm EV} {p pos : Pos} (hm : Z.mg ("sorted" : Str) = none) (he : FE X E W e f) (hg : sc.names.lookup ("sorted" : Str) = some .globalImplicit := by rfl) (h1 : starEach [e] X.env = (false, eval e X.env) :: starEach [] X.env := by rfl) : FE X E W (.Call (.Name "sorted" p) [e] [] pos) (e1 opSortD f) :=
  fe_b1 A (call_sortedD A.calm) opSortD_ok hm PyProof.Rows.boot_sorted he hg (by decide) (by decide) h1
@[simp] def opLstD : Op1 := fun x M => match asDct M x with
  | some (ks, _) => (keyStrs ks).map fun ws => .fr (.lst (ws.map .str))
  | none => none
theorem opLstD_ok : Op1Ok X (fun u H Q => ∃ (a : Addr) (kvs : List (Key × V)), [u] = [.ref a] ∧ Rd H a (.dK kvs) ∧ ∀ p, H p = none → Q (.ref p) (upd H p (.lst (kvs.map fun kv => kV kv.1)))) opLstD := by
  intro E s G M H H0 x u ev Q R d rx e q
  simp only [opLstD] at e
  cases e1 : asDct M x with
  | none => rw [e1] at e; cases e
  | some kx =>
    obtain ⟨ks, xs⟩ := kx
    rw [e1] at e
    simp only at e
    cases e2 : keyStrs ks with
    | none => rw [e2] at e; cases e
    | some ws =>
      rw [e2] at e
      cases e
      obtain ⟨a, kvs, rfl, hr, hk, rr, z'⟩ := dct_of R rx e1
      refine ⟨a, kvs, rfl, hr, fun p hp => ?_⟩
      have ek : (kvs.map fun kv => kV kv.1) = ws.map V.str := by
        have h : kvs.map (·.1) = ws.map Sum.inr := by rw [hk, keyStrs_some e2]
        have := congrArg (List.map kV) h
        rw [List.map_map, List.map_map] at this
        exact this
      have zl : ws.length ≤ sizeLine := by
        have h : kvs.map (·.1) = ws.map Sum.inr := by rw [hk, keyStrs_some e2]
        have := congrArg List.length h
        simp only [List.length_map] at this
        omega
      rw [ek]
      obtain ⟨V1, R1, r1⟩ := rep_newlst (H0 := H0) R d (repVs_strs ws) (by rw [List.length_map]; exact zl) hp
      exact q G _ _ V1 R1 r1
theorem fe_listD (A : Amb Z X W N sc fs k) {e : Expr} {f : Sm EV} {p pos : Pos} (hm : Z.mg ("list" : Str) = none) (he : FE X E W e f) (hg : sc.names.lookup ("list" : Str) = some .globalImplicit := by rfl) (h1 : starEach [e] X.env = (false, eval e X.env) :: starEach [] X.env := by rfl) : FE X E W (.Call (.Name "list" p) [e] [] pos) (e1 opLstD f) :=
  fe_t1 A (call_listD A.calm) opLstD_ok hm PyProof.Rows.boot_list he hg (by decide) (by decide) h1
/-! a list unpacked -/
def gLst (K : PySem.W.Frag) (n : Nat) (t : TGs) : TG := fun v σ H Q => ∃ a xs, v = .ref a ∧ SqL K H a xs ∧ xs.length = n ∧ t xs σ H Q
theorem pg_lst {es : List Expr} {kk : Nat} {t : TGs} {n : Nat} {pos : Pos} (hc : X.calm = true) (h : PGs X es t)
    (hn : (assignEach es X.env).length = n := by rfl) (hst : (assignEach es X.env).findIdx? (·.1) = none := by rfl) : PG X (.Tuple es kk pos) (gLst X.K n t) := by
  refine ⟨fun pins s σ H v u Q I r hw => ?_⟩
  obtain ⟨a, xs, e1, hq, hl, hw⟩ := hw
  subst e1
  cases r
  obtain ⟨its, rv, pl, hz⟩ := I.list hq
  rw [assign_Tuple]
  refine wpAny_bind (wpAny_standAt ?_)
  unfold unpack
  rw [hst, show (assignEach es X.env).length = its.toArray.size by simp [hn, ← hl, rv.length]]
  refine wpAny_bind (wpAny_holding (PySem.W.kun_itemsOf (I.ok.hd hc) pl.isList fun h' hx => ?_))
  have I1 : Inv X pins σ H { s with heap := h' } := I.kept (t' := s.toks) fun b o e => hx b o (Nat.ne_of_lt (Heap.lt_size e)) e
  exact h.run pins _ σ H xs _ Q I1 (by simpa using rv) hw
@[simp] def sPatL (is : List Nat) (f : Sm PV) : Ss := fun M => (f M).st fun p M1 => match p with
  | .lst ps => match setAll is ps M1.r with
    | some r' => .nx ⟨r', M1.h⟩
    | none => .bad
  | _ => .bad
theorem fs_patL (A : Amb Z X W N sc fs k) {es : List Expr} {is : List Nat} {kk : Nat} {e : Expr} {f : Sm PV} {p pos : Pos} (hg : FGs X es is) (he : FP X E W e f) (hn : (assignEach es X.env).length = is.length := by rfl) (hst : (assignEach es X.env).findIdx? (·.1) = none := by rfl)
    (hs : swapsWithSole [.Tuple es kk p] e pos.line X.env = pure false := by rfl) (hw : swappedStores [.Tuple es kk p] e X.env = pure none := by rfl)
    (h1 : (assignEach [.Tuple es kk p] X.env).map (·.2) = [assign (.Tuple es kk p) X.env] := by rfl) : FS X E W (.Assign [.Tuple es kk p] e pos) (sPatL is f) := by
  refine ⟨PS.weak (ps_asg he.pe (pg_lst A.calm hg.pg hn hst) hs hw h1) ?_⟩
  rintro D s H ⟨G, M, R, h⟩
  refine tP_st R h fun G1 M1 H1 pv u V1 R1 rp q => ?_
  cases pv with
  | lst ps =>
    cases e1 : setAll is ps M1.r with
    | none => simp only [e1] at q; exact False.elim q
    | some r' =>
      simp only [e1] at q
      obtain ⟨a, us, rfl, hl, rl, zl⟩ := lst_of (H0 := H1) (e := .v (.lst ps)) R1 rp rfl
      obtain ⟨s', R', h1, h2⟩ := gNames_ok R1 rl e1
      exact ⟨a, us, rfl, hl, by rw [← rl.length, ← setAll_len e1], h1 _ (q.nxt R')⟩
  | _ => exact False.elim q
end
/-! == of lists of dicts -/
def eqDs : List PV → List PV → Bool
  | [], [] => true
  | .dct ks xs :: l, .dct ls ys :: r => decide (ks.length = ls.length) && decide (dEq ls ys ks xs = some true) && eqDs l r
  | _, _ => false
@[simp] def cpEqDs : Cp2 := fun x y M => match asLst M x, asLst M y with
  | some xs, some ys => if eqDs xs ys = true then some true else none
  | _, _ => none
def DEq2 (K : PySem.W.Frag) (H : Hp) (u v : V) : Prop := ∃ c d kvs lvs, u = .ref c ∧ v = .ref d ∧ Rd H c (.dK kvs) ∧ Rd H d (.dK lvs) ∧ kvs.length = lvs.length ∧ HitsV K H lvs kvs true
def rEqDs (K : PySem.W.Frag) : R2 := fun x y H Q => ∃ (a b : Addr) (us ws : List V), x = .ref a ∧ y = .ref b ∧ SqL K H a us ∧ SqL K H b ws ∧ us.length = ws.length ∧ (∀ (j : Nat) (u v : V), us[j]? = some u → ws[j]? = some v → DEq2 K H u v) ∧ Q (.bl true) H
section
variable {X : Cx} {E : Ent} {W : WX} {N : List Str} {sc : Scope} {fs : Str → Bool} {k : Nat} {Z : Wd}
theorem eqDs_rep {K : PySem.W.Frag} {G : Gh} {M : Mem} {s : L2.St} {H : Hp} (R : StRep K E G M s H) : ∀ {xs ys : List PV} {us ws : List V}, RepVs K G H xs us → RepVs K G H ys ws → eqDs xs ys = true → us.length = ws.length ∧ ∀ (j : Nat) (u v : V), us[j]? = some u → ws[j]? = some v → DEq2 K H u v
  | [], ys, us, ws, r1, r2, h => by
    have e1 := RepVs.nil_iff.mp r1
    cases ys with
    | nil => have e2 := RepVs.nil_iff.mp r2; subst e1 e2; exact ⟨rfl, fun j u v e => by simp at e⟩
    | cons y ys => cases h
  | x :: xs, ys, us, ws, r1, r2, h => by
    cases ys with
    | nil => cases x <;> cases h
    | cons y ys =>
      obtain ⟨u, us', rfl, ru, rus⟩ := RepVs.cons_iff.mp r1
      obtain ⟨v, ws', rfl, rv, rws⟩ := RepVs.cons_iff.mp r2
      cases x with
      | dct ks vs =>
        cases y with
        | dct ls zs =>
          simp only [eqDs, Bool.and_eq_true, decide_eq_true_eq] at h
          obtain ⟨⟨h1, h2⟩, h3⟩ := h
          obtain ⟨i1, i2⟩ := eqDs_rep R rus rws h3
          refine ⟨by simp [i1], fun j p q e1 e2 => ?_⟩
          cases j with
          | succ j => exact i2 j p q (by simpa using e1) (by simpa using e2)
          | zero =>
            simp at e1 e2
            subst e1 e2
            obtain ⟨a, kvs, rfl, g1, hk, rk, _⟩ := dct_of (H0 := H) (e := .v (.dct ks vs)) R ru rfl
            obtain ⟨c, lvs, rfl, g2, hl, rl, _⟩ := dct_of (H0 := H) (e := .v (.dct ls zs)) R rv rfl
            have l1 : ks.length = kvs.length := by rw [← hk, List.length_map]
            have l2 : ls.length = lvs.length := by rw [← hl, List.length_map]
            exact ⟨a, c, kvs, lvs, rfl, rfl, g1, g2, by omega, dEq_rep hl rl hk rk h2⟩
        | _ => cases h
      | _ => cases h
theorem cpEqDs_ok : Cp2Ok X (rEqDs X.K) cpEqDs := by
  intro E s G M H H0 x y u v b Q R rx ry e q
  simp only [cpEqDs] at e
  split at e
  · rename_i xs ys e1 e2
    split at e
    · rename_i h
      cases e
      obtain ⟨a, us, rfl, hl, rl, zl⟩ := lst_of R rx e1
      obtain ⟨c, ws, rfl, hl2, rl2, zl2⟩ := lst_of R ry e2
      obtain ⟨h1, h2⟩ := eqDs_rep R rl rl2 h
      exact ⟨a, c, us, ws, rfl, rfl, hl, hl2, h1, h2, q⟩
    · cases e
  · cases e
theorem hits_tree {pins : List (Addr × Obj)} {σ : L2.St} {H : Hp} {s : Shared} (I : Inv X pins σ H s) {lvs : List (Key × V)} {vb : List (Key × Value)} (rb : KV lvs vb) {kvs : List (Key × V)} {r : Bool} (h : HitsV X.K H lvs kvs r) : ∀ {va : List (Key × Value)}, KV kvs va → r = true →
    (∀ k v y, (k, v) ∈ va → valueAt vb k = some y → PySem.W.EqTree X.prog X.w s 64 v y true) ∧ (va.all fun p => (valueAt vb p.1).isSome && true) = true := by
  induction h with
  | nil => intro va ra _; cases ra; exact ⟨fun k v y hm => by simp at hm, rfl⟩
  | miss hn => intro va ra hr; cases hr
  | @hit k v u rest d e b hv hd he sd se _ ih =>
    intro va ra hr
    cases ra with
    | @cons p q ps qs h t =>
      obtain ⟨h1, h2⟩ := h
      obtain ⟨key, w⟩ := q
      have h1 : k = key := h1
      subst h1
      rw [Bool.and_eq_true] at hr
      have rr : RelO (some u) (valueAt vb k) := by rw [← hv]; exact rb.val k
      obtain ⟨y, hy, ry⟩ := rr.some_of
      obtain ⟨as, r1⟩ := Dp.reads I d v w hd h2
      obtain ⟨bs, r2⟩ := Dp.reads I e u y he ry
      obtain ⟨i1, i2⟩ := ih t hr.2
      refine ⟨fun k' v' y' hm hy' => ?_, ?_⟩
      · rcases List.mem_cons.mp hm with z | z
        · cases z
          rw [hy] at hy'; cases hy'
          have := fun (A : Around) (hu : A.units + 64 < cLine) => SeqAt.eqAt_reads d e A s _ _ as bs r1 r2 (SeqAt.canLay_of_shaped sd) (SeqAt.canLay_of_shaped se) (SeqAt.room_of_shaped sd hu)
          rw [hr.1] at this
          exact .leaf this
        · exact i1 k' v' y' z hy'
      · simp only [List.all_cons, hy, Option.isSome_some, Bool.true_and, Bool.and_true] at i2 ⊢
        exact i2
theorem op_eqDs (hu : X.A.units + 66 < cLine) : OpR X (compareOp .Eq) (rEqDs X.K) := by
  intro pins s σ H x y v u Q I rx ry h
  obtain ⟨a, b, us, ws, rfl, rfl, ha, hb, hlen, hh, q⟩ := h
  cases rx; cases ry
  obtain ⟨its, rv, pl, hz⟩ := I.list ha
  obtain ⟨jts, rw', pl2, hz2⟩ := I.list hb
  have l1 := rv.length
  have l2 := rw'.length
  refine PySem.W.eq_listsT (n := 65) (e := fun _ => true) pl.isList pl2.isList (by simp; omega) (fun j h1 h2 => ?_) hu ⟨.bl _, H, I, rfl, ?_⟩
  · simp only [List.size_toArray] at h1 h2
    have g1 : us[j]? = some us[j] := List.getElem?_eq_getElem (by omega)
    have g2 : ws[j]? = some ws[j] := List.getElem?_eq_getElem (by omega)
    obtain ⟨c, d, kvs, lvs, e1, e2, hc, hd, hl, hits⟩ := hh j _ _ g1 g2
    subst_vars
    obtain ⟨t1, k1, k2⟩ := rv.get (g1.trans (congrArg some e1))
    obtain ⟨t2, k3, k4⟩ := rw'.get (g2.trans (congrArg some e2))
    cases k2; cases k4
    have b1 : its[j] = .ref c := by rw [List.getElem?_eq_getElem h1] at k1; exact Option.some.inj k1
    have b2 : jts[j] = .ref d := by rw [List.getElem?_eq_getElem h2] at k3; exact Option.some.inj k3
    show PySem.W.EqTree X.prog X.w s 65 its[j] jts[j] true
    rw [b1, b2]
    obtain ⟨_, ya, va, ra, da⟩ := dk_rd I.hok hc
    obtain ⟨_, yb, vb, rb, db⟩ := dk_rd I.hok hd
    by_cases hcd : c = d
    · subst hcd; exact .same
    · obtain ⟨i1, i2⟩ := hits_tree I rb hits ra rfl
      have := PySem.W.EqTree.dicts (e := fun _ => true) hcd ya yb da db i1
      have hb : (va.length == vb.length && va.all fun p => (valueAt vb p.1).isSome && true) = true := by
        rw [i2, ra.length.symm, rb.length.symm, hl]; simp
      rw [hb] at this
      exact this
  · have : ((List.range its.toArray.size).all fun _ => true) = true := by simp
    rw [this]; exact q
variable {a b : Expr} {f g : Sm EV} {pos : Pos}
theorem fe_eqDs (A : Amb Z X W N sc fs k) (ha : FE X E W a f) (hb : FE X E W b g) : FE X E W (.Compare a [.Eq] [b] pos) (eB (b2 cpEqDs f g)) := fe_cmp (op_eqDs (by have := A.room.un; omega)) cpEqDs_ok ha hb (nomark _)
theorem ft_eqDs (A : Amb Z X W N sc fs k) (ha : FE X E W a f) (hb : FE X E W b g) : FT X E W (.Compare a [.Eq] [b] pos) (b2 cpEqDs f g) := ft_cmp (op_eqDs (by have := A.room.un; omega)) cpEqDs_ok ha hb (nomark _)
end
end HF

end
section
set_option Elab.async false
set_option linter.all false
set_option maxRecDepth 100000
set_option maxHeartbeats 4000000
set_option autoImplicit false
/-! HF47: sorted(d.items()) of a dict of whole numbers by words. -/
namespace HFS
open PySem PySem.Spec PyProof.Rows L2
abbrev PI := Str × Int
def encI (b : PI) : PyData := .tuple [.str b.1, .int b.2]
def srtI (bs : List PI) : List PI := bs.mergeSort (PySem.W.dataLe false encI)
theorem srtI_perm (bs : List PI) : (srtI bs).Perm bs := List.mergeSort_perm _ _
theorem srtI_len (bs : List PI) : (srtI bs).length = bs.length := (srtI_perm bs).length_eq
def addT (H : Hp) : List Addr → List PI → Hp
  | a :: as, b :: bs => addT (upd H a (.tup [.str b.1, .int b.2])) as bs
  | _, _ => H
theorem alikeI (b b' : PI) : PySem.W.alike (encI b) (encI b') = true := by
  simp [encI, PySem.W.alike, PySem.W.alikeAll]
theorem each_zip {α β : Type} {R : α → β → Prop} : ∀ {vs : List α} {bs : List β}, vs.length = bs.length → (∀ p ∈ vs.zip bs, R p.1 p.2) → PySem.W.EachIs R vs bs
  | [], [], _, _ => .nil
  | v :: vs, b :: bs, hl, h => .cons (h (v, b) (by simp)) (each_zip (by simpa using hl) fun p hp => h p (by simp [hp]))
theorem each_pick {out : List Value} {bs : List PI} {Z : List (Addr × PI)} (h : PySem.W.EachIs (fun v b => ∃ a, v = Value.ref a ∧ (a, b) ∈ Z) out bs) : ∃ zs : List (Addr × PI), out = zs.map (fun z => Value.ref z.1) ∧ zs.map (·.2) = bs ∧ ∀ z ∈ zs, z ∈ Z := by
  induction h with
  | nil => exact ⟨[], rfl, rfl, by simp⟩
  | @cons v b _ _ h1 _ ih =>
    obtain ⟨a, rfl, hz⟩ := h1
    obtain ⟨zs, e1, e2, e3⟩ := ih
    exact ⟨(a, b) :: zs, by simp [e1], by simp [e2], fun z hz' => by
      rcases List.mem_cons.mp hz' with rfl | hz'
      · exact hz
      · exact e3 z hz'⟩
section
variable {X : Cx}
/-- the tuples are tracked, one by one -/
theorem takeI {pins : List (Addr × Obj)} {σ : L2.St} {H0 : Hp} {s : Shared} {h' : Heap} {tk : Nat} (I0 : Inv X pins σ H0 s) : ∀ (L : List Addr) (bs : List PI) (H1 : Hp), Inv X pins σ H1 { s with heap := h', toks := tk } → L.Nodup →
    (∀ p ∈ L.zip bs, s.heap.objs.size ≤ p.1 ∧ H1 p.1 = none ∧ ∀ H2, ObjOk X.prog X.w H2 h' p.1 (.tup [.str p.2.1, .int p.2.2])) → Inv X pins σ (addT H1 L bs) { s with heap := h', toks := tk }
  | [], bs, H1, I1, _, _ => by cases bs <;> exact I1
  | a :: L, [], H1, I1, _, _ => I1
  | a :: L, b :: bs, H1, I1, hn, h => by
    obtain ⟨hb, hnone, ok⟩ := h (a, b) (by simp)
    have I2 : Inv X pins σ (upd H1 a (.tup [.str b.1, .int b.2])) { s with heap := h', toks := tk } := I1.take (h' := h') (t' := tk) (fun b ob _ e => e) (I0.fpOk hb hnone) (ok _)
    rw [List.nodup_cons] at hn
    refine takeI I0 L bs _ I2 hn.2 fun p hp => ?_
    obtain ⟨c1, c2, c3⟩ := h p (by simp [hp])
    have : p.1 ∈ L := (List.of_mem_zip hp).1
    exact ⟨c1, by rw [upd_ne (fun z => hn.1 (by rw [← z]; exact this))]; exact c2, c3⟩
theorem prI {P : Program} {w : World} : ∀ {el : List DictEntry} {vs : List (Key × Value)} {bs : List PI}, Pairs (mixKind P w) el vs → KV (bs.map fun b => ((Sum.inr b.1 : Key), V.int b.2)) vs → el.length = bs.length ∧ ∀ p ∈ el.zip bs, ∃ t t', p.1.key = Value.str p.2.1 t ∧ p.1.val = Value.int p.2.2 t'
  | [], vs, bs, hp, hk => by
    cases hp
    cases bs with
    | nil => exact ⟨rfl, by simp⟩
    | cons b bs => cases hk
  | en :: el, vs, bs, hp, hk => by
    cases hp with
    | @cons _ kv _ kvs h1 h2 h3 =>
      cases bs with
      | nil => cases hk
      | cons b bs =>
        cases hk with
        | cons r1 r2 =>
          obtain ⟨i1, i2⟩ := prI h3 r2
          obtain ⟨q1, q2⟩ := r1
          refine ⟨by simp [i1], fun p hp' => ?_⟩
          simp only [List.zip_cons_cons, List.mem_cons] at hp'
          rcases hp' with rfl | hp'
          · obtain ⟨t', e2⟩ : ∃ t', kv.2 = Value.int b.2 t' := q2
            have h1 : keyIs kv.1 en.key = true := h1
            rw [← show (Sum.inr b.1 : Key) = kv.1 from q1] at h1
            rcases keyIs_shape h1 with ⟨i, t, e3, e4⟩ | ⟨x, t, e3, e4⟩
            · first | (cases e4) | (cases e3)
            · refine ⟨t, t', ?_, by rw [h2, e2]⟩
              first
                | (have := Sum.inr.inj e4; subst this; exact e3)
                | (have := Sum.inr.inj e3; subst this; exact e4)
          · exact i2 p hp'
def tSortIt (ta : TE) : TE := fun σ H Q => ta σ H fun x H1 => ∃ (a : Addr) (bs : List PI), x = .ref a ∧ Rd H1 a (.dK (bs.map fun b => (Sum.inr b.1, V.int b.2))) ∧ bs.length < 64 ∧
  ∀ (as : List Addr) (l : Addr) (zs : List (Addr × PI)), as.Nodup → (∀ x ∈ as, H1 x = none) → l ∉ as → H1 l = none → as.length = bs.length → (∀ z ∈ zs, z ∈ as.zip bs) → zs.map (·.2) = srtI bs → Q (.ref l) (upd (addT H1 as bs) l (.lst (zs.map fun z => V.ref z.1)))
theorem addT_none {H : Hp} {l : Addr} : ∀ {as : List Addr} {bs : List PI}, H l = none → l ∉ as → addT H as bs l = none
  | [], bs, h, _ => by cases bs <;> exact h
  | a :: as, [], h, _ => h
  | a :: as, b :: bs, h, hn => by
    simp only [List.mem_cons, not_or] at hn
    exact addT_none (H := upd H a (.tup [.str b.1, .int b.2])) (as := as) (bs := bs) (by rw [upd_ne hn.1]; exact h) hn.2
open PyProof.V PySem.W in
theorem pe_sortIt {e : Expr} {ta : TE} {p apos cpos pos : Pos} (hu : X.A.units + 65 < cLine) (hg : Gl X "sorted") (hm : X.mg "sorted" = none) (ha : PE X e ta) (hc : X.calm = true)
    (na : starEach [Expr.Call (.Attribute e "items" apos) [] [] cpos] X.env = (false, eval (.Call (.Attribute e "items" apos) [] [] cpos) X.env) :: starEach [] X.env)
    (hbase : attributeBase e "items" X.env (eval e X.env) = eval e X.env) (hline : (apos.endLine == cpos.line) = true) :
    PE X (.Call (.Name "sorted" p) [.Call (.Attribute e "items" apos) [] [] cpos] [] pos) (tSortIt ta) := by
  refine ⟨fun pins s σ H Q I h => ?_⟩
  refine Call_ (ld_blt I hg hm PyProof.Rows.boot_sorted (PyProof.Rows.callWith_builtin1 (PyProof.Rows.args_cons ?_ na) na rfl))
  refine wpAny_Call_method (T := "dict") (id := "dict.items") hbase rfl hline F.plainAttrs_dict F.slot_dict_items F.type_dict_items (thn (ha.run pins s σ H _ I h) fun u s1 ⟨x, H1, I1, rx, a, bs, ex, hd, h64, q⟩ => ?_)
  subst ex
  obtain rfl : u = Value.ref a := rx
  obtain ⟨hz, hs, vs, kv, hm'⟩ := dk_rd I1.hok hd
  refine ⟨hm'.typeIs, hm'.mapOf.noDict, ?_⟩
  show wpAny _ _ (callWith cpos (.builtin "dict.items") [.ref a] [] []) _ X.xe s1
  refine method_meetsIn F.slot_dict_items F.entry_dict_items rfl (PySem.evalArgs_none ⟨rfl, hm'.typeIs, F.args_dict_items_1 _, _, meets_dict_items (mixKind X.prog X.w) a hs, ⟨vs, hm'⟩, ?_⟩)
  refine PyProof.Rows.args_nil ?_
  obtain ⟨s2, es2⟩ : ∃ s2 : Shared, s2 = { s1 with heap := s1.heap.push { cls := .type "dict_items", data := .fields #[.ref a] } } := ⟨_, rfl⟩
  have I2 : Inv X pins σ H1 s2 := by rw [es2]; exact I1.kept (t' := s1.toks) fun b ob q => Heap.get?_push_of_some _ q
  have hv : s2.heap.IsItemsView s1.heap.objs.size a := by rw [es2]; exact ⟨_, Heap.get?_push_size _ rfl, rfl, rfl⟩
  obtain ⟨o, es, ep, ho, hx, hdat, hks, prs, ndk⟩ := hm'
  have raw : DT.Raw s2.heap a es ep := by rw [es2]; exact ⟨o, Heap.get?_push_of_some _ ho, hx, hdat⟩
  obtain ⟨el, pr⟩ := prI prs kv
  have esz : es.size = bs.length := by simpa using el
  have hh : X.A.handled = none := I2.ok.hd hc
  show wpAny _ _ (call (.builtin "sorted") [.ref s1.heap.objs.size]) _ X.xe { s1 with heap := s1.heap.push { cls := .type "dict_items", data := .fields #[.ref a] } }
  rw [← es2]
  refine DT.sortedI (es := es) (ep := ep) hh hv raw (by rw [esz, sizeLine_eq]; omega) fun h' tk as hk hlt hl hG => ?_
  have lab : as.length = bs.length := by omega
  have nd : as.Nodup := List.Pairwise.imp (fun h => Nat.ne_of_lt h) hG.rise
  have pt : ∀ p ∈ as.zip bs, ∃ t t', h'.get? p.1 = some { cls := .type "tuple", data := .seq #[Value.str p.2.1 t, Value.int p.2.2 t'] } := fun p hp => by
    obtain ⟨j, hj⟩ := List.mem_iff_getElem?.mp hp
    obtain ⟨j1, j2⟩ := List.getElem?_zip_eq_some.mp hj
    obtain ⟨en, he, hg'⟩ := hG.pairs j p.1 j1
    obtain ⟨t, t', k1, k2⟩ := pr (en, p.2) (List.mem_of_getElem? (List.getElem?_zip_eq_some.mpr ⟨by rw [Array.getElem?_toList]; exact he, j2⟩))
    exact ⟨t, t', by rw [hg', k1, k2]⟩
  have hob : (h'.push { cls := .type "list", data := .seq (as.map Value.ref).toArray }).get? h'.objs.size = some (seqObj "list" (as.map Value.ref).toArray 0) := Heap.get?_push_size _ rfl
  have kb : ∀ b o, s2.heap.get? b = some o → (h'.push { cls := .type "list", data := .seq (as.map Value.ref).toArray }).get? b = some o := fun b o e => Heap.get?_push_of_some _ (hk b o e)
  have ne0 : ∀ b o, h'.get? b = some o → b ≠ h'.objs.size := fun b o e => Nat.ne_of_lt (Heap.lt_size e)
  generalize hh2 : h'.push { cls := .type "list", data := .seq (as.map Value.ref).toArray } = h2 at hob kb ⊢
  have ka : ∀ b o, h'.get? b = some o → h2.get? b = some o := fun b o e => by rw [← hh2]; exact Heap.get?_push_of_some _ e
  have pin : ∀ p ∈ as.zip bs, ∃ t t', (PySem.W.sortingHeap h2 h'.objs.size (as.map Value.ref)).get? p.1 = some { cls := .type "tuple", data := .seq #[Value.str p.2.1 t, Value.int p.2.2 t'] } := fun p hp => by
    obtain ⟨t, t', e⟩ := pt p hp
    exact ⟨t, t', PySem.W.sortingHeap_old (ne0 _ _ e) (ka _ _ e)⟩
  have mz : ∀ p ∈ (as.map Value.ref).zip bs, ∃ x, p.1 = Value.ref x ∧ (x, p.2) ∈ as.zip bs := fun p hp => by
    rw [List.zip_map_left] at hp
    obtain ⟨z, hz', rfl⟩ := List.mem_map.mp hp
    exact ⟨z.1, rfl, hz'⟩
  have er : PySem.W.EachIs (fun v b => ∃ as', Reads (PySem.W.sortingHeap h2 h'.objs.size (as.map Value.ref)) v (encI b) as') (as.map Value.ref) bs := each_zip (by rw [List.length_map]; exact lab) fun p hp => by
    obtain ⟨x, e1, e2⟩ := mz p hp
    obtain ⟨t, t', e3⟩ := pin _ e2
    rw [e1]
    exact ⟨_, Reads.tuple e3 rfl rfl (.cons (.str _ _) (.cons (.int _ _) .nil))⟩
  have ee : PySem.W.EachIs (fun v b => ∃ x, v = Value.ref x ∧ (x, b) ∈ as.zip bs) (as.map Value.ref) bs := each_zip (by rw [List.length_map]; exact lab) fun p hp => mz p hp
  have hal : PySem.W.AllAlike (bs.map encI) := PySem.W.AllAlike.of alikeI
  have eo := PySem.W.sortVals_data false ee er hal
  obtain ⟨zs, z1, z2, z3⟩ := each_pick eo
  refine wpAny_call_entry PyProof.Rows.slot_list_sort ⟨_, hob, rfl⟩ PyProof.Rows.entry_list_sort
    (PySem.W.list_sort_vals (κ := PySem.W.dataKind (PySem.W.sortingHeap h2 h'.objs.size (as.map Value.ref)) (bs.map encI)) (s := { s2 with heap := h2, toks := tk }) hob (PySem.W.SortsAt.data (PySem.W.each_map encI er) hal (PySem.W.Sortable.tuples fun b => ⟨_, _, rfl⟩) fun d hd' => ?_) (by rw [List.length_map, lab, sizeLine_eq]; omega) ⟨.none, rfl, ?_⟩) (PyProof.Rows.args_list_sort _)
  · obtain ⟨b, _, rfl⟩ := List.mem_map.mp hd'
    have : (encI b).depth ≤ 4 := by simp [encI, PyData.depth, PyData.depthAll]
    show X.A.units + 1 + 1 + (encI b).depth < cLine
    omega
  · generalize hout : PySem.W.sortVals (PySem.W.dataKind (PySem.W.sortingHeap h2 h'.objs.size (as.map Value.ref)) (bs.map encI)) false (as.map Value.ref) (as.map Value.ref) = out at z1 ⊢
    have kF : ∀ b o, b ≠ h'.objs.size → h2.get? b = some o → (sortedHeap h2 h'.objs.size (as.map Value.ref) out.toArray).get? b = some o := fun b o hb e => (PyProof.Rows.sortedHeap_old hb (Heap.lt_size e)).trans e
    have kS : ∀ b o, s2.heap.get? b = some o → (sortedHeap h2 h'.objs.size (as.map Value.ref) out.toArray).get? b = some o := fun b o e => kF b o (ne0 _ _ (hk b o e)) (kb b o e)
    obtain ⟨eF, heF⟩ := PyProof.Rows.sortedHeap_at (vs := as.map Value.ref) (out := out.toArray) hob
    have I3 : Inv X pins σ H1 { s2 with heap := sortedHeap h2 h'.objs.size (as.map Value.ref) out.toArray, toks := tk } := I2.kept (t' := tk) kS
    have hnl : H1 h'.objs.size = none := I2.hok.fresh (Nat.le_of_lt hlt)
    have lna : h'.objs.size ∉ as := fun z => Nat.lt_irrefl _ (hG.there z)
    have asn : ∀ x ∈ as, H1 x = none := fun x hx' => I2.hok.fresh (Nat.le_of_lt (hG.above x hx'))
    have I4 := takeI I2 as bs H1 I3 nd fun p hp => by
      obtain ⟨t, t', e⟩ := pt p hp
      have m1 : p.1 ∈ as := (List.of_mem_zip hp).1
      exact ⟨Nat.le_of_lt (hG.above _ m1), asn _ m1, fun H3 => ⟨(by rw [sizeLine_eq]; show 2 ≤ 16777216; omega), [Value.str p.2.1 t, Value.int p.2.2 t'], .cons ⟨t, rfl⟩ (.cons ⟨t', rfl⟩ .nil), ⟨_, kF _ _ (ne0 _ _ e) (ka _ _ e), rfl, 0, rfl⟩⟩⟩
    have zl : (zs.map fun z => V.ref z.1).length ≤ sizeLine := by
      have e := congrArg List.length z2
      rw [List.length_map] at e
      have e2 := srtI_len bs
      unfold srtI at e2
      rw [List.length_map, sizeLine_eq]
      omega
    have rv : Vals (zs.map fun z => V.ref z.1) out := by
      rw [z1]
      exact vals_maps (fun z : Addr × PI => V.ref z.1) (fun z => Value.ref z.1) zs fun _ _ => rfl
    have I5 : Inv X pins σ (upd (addT H1 as bs) h'.objs.size (.lst (zs.map fun z => V.ref z.1))) { s2 with heap := sortedHeap h2 h'.objs.size (as.map Value.ref) out.toArray, toks := tk } :=
      I4.take (h' := sortedHeap h2 h'.objs.size (as.map Value.ref) out.toArray) (t' := tk) (fun b ob _ e => e) (I2.fpOk (Nat.le_of_lt hlt) (addT_none hnl lna)) ⟨zl, out, eF, rv, heF⟩
    exact ⟨.ref h'.objs.size, _, I5, rfl, q as h'.objs.size zs nd asn lna hnl lab z3 z2⟩
end
end HFS
namespace HF
open PySem PySem.Spec PyProof.Rows L2 HFS
section
variable {X : Cx} {E : Ent} {W : WX} {N : List Str} {sc : Scope} {fs : Str → Bool} {k : Nat} {Z : Wd}
def tupI (b : PI) : PV := .tup [.str b.1, .int b.2]
/-- the words and numbers of a dict -/
def itemsI : List Key → List PV → Option (List PI)
  | [], [] => some []
  | .inr w :: ks, .int i :: xs => (itemsI ks xs).map ((w, i) :: ·)
  | _, _ => none
theorem itemsI_rep {K : PySem.W.Frag} {G : Gh} {H : Hp} : ∀ {ks : List Key} {xs : List PV} {bs : List PI} {kvs : List (Key × V)}, itemsI ks xs = some bs → kvs.map (·.1) = ks → RepVs K G H xs (kvs.map (·.2)) → kvs = bs.map fun b => ((Sum.inr b.1 : Key), V.int b.2)
  | [], [], bs, kvs, h, hk, r => by
    cases h
    cases kvs with
    | nil => rfl
    | cons a l => cases hk
  | .inr w :: ks, .int i :: xs, bs, kvs, h, hk, r => by
    simp only [itemsI] at h
    cases e : itemsI ks xs with
    | none => rw [e] at h; cases h
    | some l =>
      rw [e] at h; cases h
      cases kvs with
      | nil => cases hk
      | cons a kvs =>
        simp only [List.map_cons, List.cons.injEq] at hk
        obtain ⟨u, us, e2, r1, r2⟩ := RepVs.cons_iff.mp r
        simp only [List.map_cons, List.cons.injEq] at e2
        have ih := itemsI_rep e hk.2 (by rw [e2.2]; exact r2)
        simp only [RepV] at r1
        obtain ⟨a1, a2⟩ := a
        simp only at hk e2
        rw [List.map_cons, ← ih, hk.1, e2.1, r1]
  | [], _ :: _, _, _, h, _, _ => by cases h
  | .inl _ :: _, _, _, _, h, _, _ => by cases h
  | .inr _ :: _, [], _, _, h, _, _ => by cases h
  | .inr _ :: _, .non :: _, _, _, h, _, _ => by cases h
  | .inr _ :: _, .bl _ :: _, _, _, h, _, _ => by cases h
  | .inr _ :: _, .str _ :: _, _, _, h, _, _ => by cases h
  | .inr _ :: _, .tup _ :: _, _, _, h, _, _ => by cases h
  | .inr _ :: _, .lst _ :: _, _, _, h, _, _ => by cases h
  | .inr _ :: _, .rol _ :: _, _, _, h, _, _ => by cases h
  | .inr _ :: _, .dct _ _ :: _, _, _, h, _, _ => by cases h
  | .inr _ :: _, .ref _ :: _, _, _, h, _, _ => by cases h
  | .inr _ :: _, .exc _ :: _, _, _, h, _, _ => by cases h
  | .inr _ :: _, .fn _ :: _, _, _, h, _, _ => by cases h
@[simp] def opSortIt : Op1 := fun x M => match asDct M x with
  | some (ks, xs) => match itemsI ks xs with
    | some bs => if bs.length < 64 then some (.fr (.lst ((srtI bs).map tupI))) else none
    | none => none
  | none => none
/-- the tuples laid, seen from here -/
theorem rep_addT {s : L2.St} : ∀ {as : List Addr} {bs : List PI} {G : Gh} {M : Mem} {H : Hp}, StRep X.K E G M s H → as.Nodup → (∀ x ∈ as, H x = none) → as.length = bs.length →
    ∃ G', Evo s G M H G' M (addT H as bs) ∧ StRep X.K E G' M s (addT H as bs) ∧ ∀ z ∈ as.zip bs, RepV X.K G' (addT H as bs) (tupI z.2) (.ref z.1)
  | [], [], G, M, H, R, _, _, _ => ⟨G, Evo.refl _ _ _ _, R, by simp⟩
  | [], _ :: _, G, M, H, R, _, _, hl => by simp at hl
  | _ :: _, [], G, M, H, R, _, _, hl => by simp at hl
  | a :: as, b :: bs, G, M, H, R, nd, hn, hl => by
    obtain ⟨V1, R1, r1⟩ := rep_newtup (X := X) R (ps := [.str b.1, .int b.2]) (us := [.str b.1, .int b.2]) (RepVs.cons (by simp only [RepV]) (RepVs.cons (by simp only [RepV]) RepVs.nil)) (by show 2 ≤ sizeLine; decide) (hn a List.mem_cons_self)
    rw [List.nodup_cons] at nd
    obtain ⟨G2, V2, R2, r2⟩ := rep_addT (as := as) (bs := bs) R1 nd.2 (fun x hx => by rw [upd_ne (fun z => nd.1 (by rw [← z]; exact hx))]; exact hn x (List.mem_cons_of_mem _ hx)) (by simpa using hl)
    refine ⟨G2, V1.trans V2, R2, fun z hz => ?_⟩
    simp only [List.zip_cons_cons, List.mem_cons] at hz
    rcases hz with rfl | hz
    · exact RepV.mono V2.ext _ _ r1
    · exact r2 z hz
theorem repVs_of {K : PySem.W.Frag} {G : Gh} {H : Hp} {α : Type} (f : α → PV) (g : α → V) : ∀ {zs : List α}, (∀ z ∈ zs, RepV K G H (f z) (g z)) → RepVs K G H (zs.map f) (zs.map g)
  | [], _ => RepVs.nil
  | z :: zs, h => RepVs.cons (h z List.mem_cons_self) (repVs_of f g fun y hy => h y (List.mem_cons_of_mem _ hy))
theorem fe_sortIt (A : Amb Z X W N sc fs k) {e : Expr} {f : Sm EV} {p apos cpos pos : Pos} (hm : Z.mg ("sorted" : Str) = none) (he : FE X E W e f) (hg : sc.names.lookup ("sorted" : Str) = some .globalImplicit := by rfl)
    (na : starEach [Expr.Call (.Attribute e "items" apos) [] [] cpos] X.env = (false, eval (.Call (.Attribute e "items" apos) [] [] cpos) X.env) :: starEach [] X.env := by rfl)
    (hbase : attributeBase e "items" X.env (eval e X.env) = eval e X.env := by rfl) (hline : (apos.endLine == cpos.line) = true := by rfl) :
    FE X E W (.Call (.Name "sorted" p) [.Call (.Attribute e "items" apos) [] [] cpos] [] pos) (e1 opSortIt f) := by
  refine ⟨PE.weak (pe_sortIt A.u65 (A.gl hg) (A.no hm) he.pe A.calm na hbase hline) ?_⟩
  rintro s H Q ⟨G, M, R, h⟩
  refine tE_one R h fun G1 M1 H1 x u V1 R1 rx h1 => ?_
  simp only [opSortIt] at h1
  cases e1 : asDct M1 x with
  | none => rw [e1] at h1; exact h1.elim
  | some kx =>
    obtain ⟨ks, xs⟩ := kx
    rw [e1] at h1
    simp only at h1
    cases e2 : itemsI ks xs with
    | none => rw [e2] at h1; exact h1.elim
    | some bs =>
      rw [e2] at h1
      simp only at h1
      split at h1
      · rename_i z
        obtain ⟨a, kvs, rfl, hr, hk, rr, z'⟩ := dct_of R1 rx e1
        have ek := itemsI_rep e2 hk rr
        subst ek
        refine ⟨a, bs, rfl, hr, z, fun as l zs nd hn lna hl hlen hz1 hz2 => ?_⟩
        obtain ⟨G2, V2, R2, r2⟩ := rep_addT R1 nd hn hlen
        have hl2 : addT H1 as bs l = none := addT_none hl lna
        have rz : RepVs X.K G2 (addT H1 as bs) ((srtI bs).map tupI) (zs.map fun z => V.ref z.1) := by
          rw [← hz2, List.map_map]
          exact repVs_of (fun z : Addr × PI => tupI z.2) (fun z => V.ref z.1) fun z hz => r2 z (hz1 z hz)
        have lz : (zs.map fun z => V.ref z.1).length ≤ sizeLine := by
          have := congrArg List.length hz2
          rw [List.length_map, srtI_len] at this
          rw [List.length_map, sizeLine_eq]; omega
        obtain ⟨R3, V3, eh, nf, na, no⟩ := R2.laid (.lst (zs.map fun z => V.ref z.1)) hl2
        exact h1 G2 _ (V2.trans V3) R3 (.ref l) ⟨l, _, rfl, L2.upd_same, ⟨_, rfl, lz, RepVs.mono V3.ext _ _ rz⟩, eh, nf, na, no, (V1.trans V2).dom l hl2⟩
      · exact h1.elim
@[simp] def opLstRg : Op1 := fun x _ => match x with
  | .v (.int n) => if 0 ≤ n ∧ n ≤ 16777216 then some (.fr (.lst ((List.range n.toNat).map fun i : Nat => .int (i : Int)))) else none
  | _ => none
theorem fe_listRg (A : Amb Z X W N sc fs k) {a : Expr} {f : Sm EV} {p p2 q pos : Pos} (hm : Z.mg ("list" : Str) = none) (hm2 : Z.mg ("range" : Str) = none) (ha : FE X E W a f) (hg : sc.names.lookup ("list" : Str) = some .globalImplicit := by rfl) (hg2 : sc.names.lookup ("range" : Str) = some .globalImplicit := by rfl)
    (na2 : starEach [a] X.env = (false, eval a X.env) :: starEach [] X.env := by rfl) (na : starEach [Expr.Call (.Name "range" p2) [a] [] q] X.env = (false, eval (.Call (.Name "range" p2) [a] [] q) X.env) :: starEach [] X.env := by rfl) :
    FE X E W (.Call (.Name "list" p) [.Call (.Name "range" p2) [a] [] q] [] pos) (e1 opLstRg f) := by
  refine ⟨PE.weak (pe_listRg A.calm (A.gl hg) (A.no hm) (prg_1 (A.gl hg2) (A.no hm2) ha.pe na2) na) ?_⟩
  rintro s H Q ⟨G, M, R, h⟩
  refine tE_one R h fun G1 M1 H1 x u V1 R1 rx h1 => ?_
  cases x with
  | v pv =>
    cases pv with
    | int n =>
      simp only [opLstRg] at h1
      split at h1
      · rename_i z
        have rx' : RepV X.K G1 H1 (.int n) u := rx
        simp only [RepV] at rx'
        subst rx'
        refine ⟨n, rfl, RgOk.of_le (by omega) z.2 (by omega) z.1, fun q hq => ?_⟩
        have ev : rgV 0 n = (List.range n.toNat).map fun i : Nat => V.int (i : Int) := by
          unfold rgV
          rw [Int.sub_zero]
          exact List.map_congr_left fun i _ => by rw [Int.zero_add]
        rw [ev]
        obtain ⟨V2, R2, r2⟩ := rep_newlst (H0 := H) R1 V1.dom (repVs_of (fun i : Nat => PV.int (i : Int)) (fun i : Nat => V.int (i : Int)) (zs := List.range n.toNat) fun i _ => by simp only [RepV]) (by rw [List.length_map, List.length_range, sizeLine_eq]; omega) hq
        exact h1 G1 _ V2 R2 _ r2
      · exact h1.elim
    | _ => exact h1.elim
  | fr _ => exact h1.elim
  | sl _ => exact h1.elim
end
end HF

end
section
set_option Elab.async false
set_option linter.all false
set_option maxRecDepth 100000
set_option maxHeartbeats 4000000
set_option autoImplicit false
/-! HF48: a tuple so many times. -/
namespace L2
open PySem PySem.Spec PyProof.Rows PySem.W PySem.Calls
theorem tuple_mul1 (l : Addr) (items : Array Value) (n : Nat) (dd : Option Addr) (sl : Array (Option Value)) (u : Tok) (c1 : (items.isEmpty || (1 : Int) == 1) = true) :
    Meets (Builtin.«tuple.__mul__» ⟨[.ref l, .int 1 u], []⟩) (fun _ R s => s.heap.get? l = some { cls := .type "tuple", dict := dd, data := .seq items n, slots := sl } ∧ R (.ok (.ret (Value.ref l))) s) :=
  .of_wp fun prog w A R s h => by
    obtain ⟨hp, g, d, tk, os⟩ := s
    obtain ⟨hl, h⟩ := h
    have f1 := AutoSeq1.idx_int
    have c0 : (decide ((1 : Int) < -(2 ^ 63)) || decide ((1 : Int) ≥ 2 ^ 63)) = false := by decide
    wp_walk using wpAny_loadPart' hl
    repeat (first
      | (refine wpAny_ite_false (decide_eq_false (by rw [c0]; exact Bool.false_ne_true)) ?_; wp_walk using wpAny_loadPart' hl)
      | (refine wpAny_ite_true (decide_eq_true (by rw [c1])) ?_; wp_walk using wpAny_loadPart' hl))
    exact ⟨_, rfl, h⟩
def rRepT1 (K : PySem.W.Frag) : R2 := fun x y H Q => ∃ l xs, x = .ref l ∧ y = .int 1 ∧ SqT K H l xs ∧ Q (.ref l) H
section
variable {X : Cx}
theorem op_repT1 : OpR X (binaryOp .Mult) (rRepT1 X.K) := by
  intro pins s σ H x y v u Q I rx ry h
  obtain ⟨l, xs, rfl, rfl, hT, q⟩ := h
  cases rx
  obtain ⟨t, rfl⟩ := ry
  obtain ⟨its, r, ⟨⟨cls, dd, data, sl⟩, ho, hc, n, hd⟩, hs⟩ := I.tuple hT
  simp only at hc hd
  subst hc hd
  refine wpAny_binaryOp_repeat_ref (T := "tuple") (U := "int") (by decide) ⟨_, ho, rfl⟩ (fun s' => typeIs_int s' 1 t) noFill_tuple_mul F.fills_int_mul F.slot_int_rmul repeat_tuple F.slot_int_index.lookup
    (call_meets F.slot_int_rmul (typeIs_int s 1 t) F.entry_int_rmul (F.args_int_rmul_2 _ _) (int_rmul_tuple 1 t l its.toArray n dd sl)
      ⟨ho, rfl, ⟨_, ho, rfl⟩, call_meets F.slot_tuple_mul ⟨_, ho, rfl⟩ F.entry_tuple_mul (F.args_tuple_mul_2 _ _) (tuple_mul1 l its.toArray n dd sl t (by simp)) ⟨ho, ?_⟩⟩)
  exact ⟨.ref l, H, I, rfl, q⟩
end
end L2
namespace HF
open PySem PySem.Spec PyProof.Rows L2
section
variable {X : Cx} {E : Ent} {W : WX} {N : List Str} {sc : Scope} {fs : Str → Bool} {k : Nat} {Z : Wd}
@[simp] def opTupRep : Op2 := fun x y _ => match x, y with
  | .v (.tup xs), .v (.int n) => if xs ≠ [] ∧ xs.length ≤ 1000 ∧ 1 ≤ n ∧ n ≤ 1000 then some (.v (.tup (List.replicate n.toNat xs).flatten)) else none
  | _, _ => none
theorem opTupRep_ok : Op2Ok X (fun x y H Q => rRepT X.K x y H Q ∨ rRepT1 X.K x y H Q) opTupRep := by
  intro E s G M H H0 x y u v ev Q R d rx ry e q
  simp only [opTupRep] at e
  split at e
  · rename_i xs n
    split at e
    · rename_i z
      obtain ⟨z1, z2, z3, z4⟩ := z
      cases e
      obtain ⟨a, us, rfl, ha, ra, za⟩ := repE_tup rx
      have ey := repE_int ry
      subst ey
      have l1 := ra.length
      by_cases c : n = 1
      · subst c
        refine .inr ⟨a, us, rfl, rfl, ha, ?_⟩
        have : (List.replicate (1 : Int).toNat xs).flatten = xs := by simp
        rw [this] at q
        exact q G H _ (Evo.refl _ _ _ _) R rx
      · refine .inl ⟨a, n, us, rfl, rfl, ha, fun e => z1 (List.length_eq_zero_iff.mp (by rw [l1, e]; rfl)), by omega, z4, by omega, fun p hp => ?_⟩
        obtain ⟨V1, R1, r1⟩ := rep_newtup (X := X) R (ra.rep n.toNat) (by
          rw [List.length_flatten, List.map_replicate, List.sum_replicate_nat, sizeLine_eq]
          have : n.toNat * us.length ≤ 1000 * 1000 := Nat.mul_le_mul (by omega) (by omega)
          omega) hp
        exact q _ _ _ V1 R1 r1
    · cases e
  · cases e
theorem fe_tupRep {a b : Expr} {f g : Sm EV} {pos : Pos} (ha : FE X E W a f) (hb : FE X E W b g) : FE X E W (.BinOp a .Mult b pos) (e2 opTupRep f g) := fe_bin (op_repT.or op_repT1) opTupRep_ok ha hb
end
end HF

end
section
set_option Elab.async false
set_option linter.all false
set_option maxRecDepth 20000
set_option autoImplicit false
namespace HF
open PySem PySem.Spec PyProof.Rows L2
noncomputable def b_is_count : Ss := sRet (eAnd (e1 (opIsi "int") (eVar 0)) (eAnd (eB (bNot (bVal (e1 (opIsi "bool") (eVar 0))))) (eB (b2 cpGe (eVar 0) (eC (.int 0))))))
noncomputable def f_is_count : Fn := runDef 1 1 b_is_count
noncomputable def b_is_word : Ss := sSeq (sIf (bOr (bNot (bVal (e1 (opIsi "str") (eVar 0)))) (bNot (b3 cpLe cpLe (eC (.int 1)) (e1 opLen (eVar 0)) (eC (.int 8))))) (sRet (eC (.bl false))) sNop) (sRet (e1 opAll (eLc (srcOf (eVar 0)) (.nm 1) [1] bYes (toP (eB (b2 cpIn (eVar 1) (eC (.str "abcdefghijklmnopqrstuvwxyz"))))))))
noncomputable def f_is_word : Fn := runDef 1 2 b_is_word
noncomputable def b_is_term (r_is_term : Fn) (r_is_part : Fn) : Ss := sSeq (sIf (bOr (bNot (bVal (e1 (opIsi "tuple") (eVar 0)))) (bOr (b2 cpEq (e1 opLen (eVar 0)) (eC (.int 0))) (bNot (bVal (e1 (opIsi "str") (e2 opIx (eVar 0) (eC (.int 0)))))))) (sRet (eC (.bl false))) sNop) (sSeq (sIf (b2 cpEq (e2 opIx (eVar 0) (eC (.int 0))) (eC (.str "name"))) (sRet (eAnd (eB (b2 cpEq (e1 opLen (eVar 0)) (eC (.int 2)))) (eAnd (eCall f_is_count [] (aCons (toP (e2 opIx (eVar 0) (eC (.int 1)))) aNil)) (eB (b2 cpLt (e2 opIx (eVar 0) (eC (.int 1))) (eVar 1)))))) sNop) (sSeq (sIf (bOr (b2 cpNe (e1 opLen (eVar 0)) (eC (.int 3))) (bOr (bNot (bVal (eCall f_is_word [] (aCons (toP (e2 opIx (eVar 0) (eC (.int 1)))) aNil)))) (bNot (bVal (e1 (opIsi "tuple") (e2 opIx (eVar 0) (eC (.int 2)))))))) (sRet (eC (.bl false))) sNop) (sSeq (sIf (b2 cpEq (e2 opIx (eVar 0) (eC (.int 0))) (eC (.str "sign"))) (sRet (e1 opAll (eLc (srcOf (e2 opIx (eVar 0) (eC (.int 2)))) (.nm 2) [2] bYes (toP (eCall r_is_part [] (aCons (toP (eVar 2)) (aCons (toP (eVar 1)) aNil))))))) sNop) (sRet (eAnd (eB (b2 cpEq (e2 opIx (eVar 0) (eC (.int 0))) (eC (.str "hole")))) (e1 opAll (eLc (srcOf (e2 opIx (eVar 0) (eC (.int 2)))) (.nm 3) [3] bYes (toP (eCall r_is_term [] (aCons (toP (eVar 3)) (aCons (toP (eVar 1)) aNil)))))))))))
noncomputable def b_is_part (r_is_term : Fn) (r_is_part : Fn) : Ss := sSeq (sIf (bOr (bNot (bVal (e1 (opIsi "tuple") (eVar 0)))) (bOr (b2 cpNe (e1 opLen (eVar 0)) (eC (.int 2))) (bNot (bVal (eCall f_is_count [] (aCons (toP (e2 opIx (eVar 0) (eC (.int 0)))) aNil)))))) (sRet (eC (.bl false))) sNop) (sRet (eCall r_is_term [] (aCons (toP (e2 opIx (eVar 0) (eC (.int 1)))) (aCons (toP (e2 opAdd (eVar 1) (e2 opIx (eVar 0) (eC (.int 0))))) aNil))))
mutual
noncomputable def f_is_term : Nat → Fn
  | 0 => fun _ _ => .bad
  | n + 1 => runDef 2 4 (b_is_term (f_is_term n) (f_is_part n))
noncomputable def f_is_part : Nat → Fn
  | 0 => fun _ _ => .bad
  | n + 1 => runDef 2 2 (b_is_part (f_is_term n) (f_is_part n))
end
noncomputable def b_inner_terms : Ss := sSeq (sIf (b2 cpEq (e2 opIx (eVar 0) (eC (.int 0))) (eC (.str "name"))) (sRet (eLst aNil)) sNop) (sSeq (sIf (b2 cpEq (e2 opIx (eVar 0) (eC (.int 0))) (eC (.str "sign"))) (sRet (e1 opLst (e2 opIx (eVar 0) (eC (.int 2))))) sNop) (sRet (eLc (srcOf (e2 opIx (eVar 0) (eC (.int 2)))) (.nm 1) [1] bYes (toP (eTup (aCons (toP (eC (.int 0))) (aCons (toP (eVar 1)) aNil)))))))
noncomputable def f_inner_terms : Fn := runDef 1 2 b_inner_terms
noncomputable def b_told_names_1 : Ss := sSeq (sIf (bOr (b2 cpNe (e2 opIx (eVar 2) (eC (.int 0))) (eC (.str "name"))) (b2 cpIn (e2 opIx (eVar 2) (eC (.int 1))) (eVar 1))) (sRet (eC .non)) sNop) (sExp (eM1 opApp (eVar 1) (pV (toP (e2 opIx (eVar 2) (eC (.int 1)))))))
noncomputable def b_told_names : Ss := sSeq (sIf (b2 cpNe (e2 opIx (eVar 0) (eC (.int 0))) (eC (.str "hole"))) (sRet (eC .non)) sNop) (sSeq (sOwn 1 (eLst aNil)) (sSeq (sForIn (srcP (toP (e2 opIx (eVar 0) (eC (.int 2))))) (.nm 2) b_told_names_1 [2]) (sRet (e1 opTupOf (eVar 1)))))
noncomputable def f_told_names : Fn := runDef 1 3 b_told_names
noncomputable def b_is_straight (r_is_straight : Fn) : Ss := sSeq (sIf (b2 cpEq (e2 opIx (eVar 0) (eC (.int 0))) (eC (.str "name"))) (sRet (eC (.bl true))) sNop) (sSeq (sIf (b2 cpEq (e2 opIx (eVar 0) (eC (.int 0))) (eC (.str "sign"))) (sRet (e1 opAll (eLc (srcOf (e2 opIx (eVar 0) (eC (.int 2)))) (.tp [1, 2]) [1, 2] bYes (toP (eCall r_is_straight [] (aCons (toP (eVar 2)) aNil)))))) sNop) (sRet (eB (bNot (bNon (eCall f_told_names [] (aCons (toP (eVar 0)) aNil)))))))
noncomputable def f_is_straight : Nat → Fn
  | 0 => fun _ _ => .bad
  | n + 1 => runDef 1 3 (b_is_straight (f_is_straight n))
noncomputable def b_holes_alike (r_holes_alike : Fn) : Ss := sSeq (sIf (bAnd (b2 cpEq (e2 opIx (eVar 0) (eC (.int 0))) (eC (.str "hole"))) (b2 cpNe (eSetd (eVar 1) (e2 opIx (eVar 0) (eC (.int 1))) (toP (e1 opLen (e2 opIx (eVar 0) (eC (.int 2)))))) (e1 opLen (e2 opIx (eVar 0) (eC (.int 2)))))) (sRet (eC (.bl false))) sNop) (sRet (e1 opAll (eLc (srcOf (eCall f_inner_terms [] (aCons (toP (eVar 0)) aNil))) (.tp [2, 3]) [2, 3] bYes (toP (eCall r_holes_alike [] (aCons (toP (eVar 3)) (aCons (toP (eVar 1)) aNil)))))))
noncomputable def f_holes_alike : Nat → Fn
  | 0 => fun _ _ => .bad
  | n + 1 => runDef 2 4 (b_holes_alike (f_holes_alike n))
noncomputable def b_is_rule : Ss := sSeq (sIf (bOr (bNot (bVal (e1 (opIsi "tuple") (eVar 0)))) (b2 cpNe (e1 opLen (eVar 0)) (eC (.int 2)))) (sRet (eC (.bl false))) sNop) (sSeq (sPat (.tp [1, 2]) (toP (eVar 0))) (sSeq (sIf (bOr (bNot (bVal (eCall (f_is_term 22) [.int 0] (aCons (toP (eVar 1)) aNil)))) (bOr (bNot (bVal (eCall (f_is_term 22) [.int 0] (aCons (toP (eVar 2)) aNil)))) (bOr (b2 cpNe (e2 opIx (eVar 1) (eC (.int 0))) (eC (.str "sign"))) (bNot (bVal (eCall (f_is_straight 12) [] (aCons (toP (eVar 1)) aNil))))))) (sRet (eC (.bl false))) sNop) (sSeq (sCell 3 eDct0) (sSeq (sIf (bNot (bVal (eCall (f_holes_alike 12) [] (aCons (toP (eVar 1)) (aCons (toP (eVar 3)) aNil))))) (sRet (eC (.bl false))) sNop) (sSeq (sSet 4 (toP (e1 opLen (eVar 3)))) (sRet (eAnd (eCall (f_holes_alike 12) [] (aCons (toP (eVar 2)) (aCons (toP (eVar 3)) aNil))) (eB (b2 cpEq (e1 opLen (eVar 3)) (eVar 4))))))))))
noncomputable def f_is_rule : Fn := runDef 1 5 b_is_rule
noncomputable def b_law_mix : Ss := sSeq (sSet 2 (toP (e2 opMod (e2 opMul (e2 opAdd (e2 opMod (eVar 0) (e2 opPow (eC (.int 10)) (eC (.int 60)))) (eC (.int 1))) (e2 opAdd (eC (.int 48271)) (e2 opMul (eC (.int 130)) (eVar 1)))) (eC (.int 2147483647))))) (sRet (e2 opMod (e2 opMul (eVar 2) (eVar 2)) (eC (.int 2147483629))))
noncomputable def f_law_mix : Fn := runDef 2 3 b_law_mix
noncomputable def b_law_free : Ss := sSeq (sIf (b2 cpEq (e2 opMod (eVar 0) (eC (.int 2))) (eC (.int 0))) (sRet (e2 opMod (e2 opDiv (eVar 0) (eC (.int 2))) (e2 opPow (eC (.int 10)) (eC (.int 60))))) sNop) (sRet (eCall f_law_mix [] (aCons (toP (e2 opDiv (eVar 0) (eC (.int 2)))) (aCons (toP (eVar 1)) aNil))))
noncomputable def f_law_free : Fn := runDef 2 2 b_law_free
noncomputable def b_law_words : Ss := sSeq (sSet 2 (toP (eC (.str "abcdefghijklmnopqrstuvwxyz")))) (sSeq (sSet 3 (toP (e2 opAdd (eC (.int 2)) (e2 opMod (eCall f_law_mix [] (aCons (toP (eVar 0)) (aCons (toP (eC (.int 1))) aNil))) (eC (.int 7)))))) (sSeq (sSet 4 (toP (eJoin (eC (.str "")) (eLc (srcR1 (aCons (toP (eVar 3)) aNil)) (.nm 5) [5] bYes (toP (e2 opIx (eVar 2) (e2 opMod (eCall f_law_mix [] (aCons (toP (eVar 0)) (aCons (toP (e2 opAdd (eC (.int 2)) (eVar 5))) aNil))) (eC (.int 26))))))))) (sSeq (sSet 6 (toP (e2 opMod (eCall f_law_mix [] (aCons (toP (eVar 0)) (aCons (toP (eC (.int 11))) aNil))) (eVar 3)))) (sSeq (sSet 7 (toP (e2 opMod (eCall f_law_mix [] (aCons (toP (eVar 0)) (aCons (toP (eC (.int 12))) aNil))) (eC (.int 26))))) (sRet (eLc (srcR1 (aCons (toP (eVar 1)) aNil)) (.nm 5) [5] bYes (toP (e2 opAdd (e2 opAdd (eSl (eVar 4) oNo (oSome (eVar 6))) (e2 opIx (eVar 2) (e2 opMod (e2 opAdd (eVar 7) (e2 opMul (eC (.int 7)) (eVar 5))) (eC (.int 26))))) (eSl (eVar 4) (oSome (e2 opAdd (eVar 6) (eC (.int 1)))) oNo)))))))))
noncomputable def f_law_words : Fn := runDef 2 8 b_law_words
noncomputable def b_law_cell_at : Ss := sSeq (sIf (b2 cpLt (eVar 1) (e1 opLen (eVar 0))) (sRet (e2 opIx (eVar 0) (eVar 1))) sNop) (sRet (eC (.int 0)))
noncomputable def f_law_cell_at : Fn := runDef 2 2 b_law_cell_at
noncomputable def b_law_leaf : Ss := sSeq (sIf (bAnd (b2 cpGt (eVar 1) (eC (.int 0))) (b2 cpLt (e2 opMod (eVar 0) (eC (.int 3))) (eC (.int 2)))) (sRet (eTup (aCons (toP (eC (.str "name"))) (aCons (toP (e2 opMod (e2 opDiv (eVar 0) (eC (.int 3))) (eVar 1))) aNil)))) sNop) (sRet (eTup (aCons (toP (eC (.str "sign"))) (aCons (toP (e2 opIx (eVar 2) (e2 opMod (e2 opDiv (eVar 0) (eC (.int 3))) (eC (.int 2))))) (aCons (toP (eTup aNil)) aNil)))))
noncomputable def f_law_leaf : Fn := runDef 3 3 b_law_leaf
noncomputable def b_law_term_1 (r_law_term : Fn) : Ss := sSeq (sPat (.tp [12, 6]) (toP (eCall r_law_term [] (aCons (toP (eVar 6)) (aCons (toP (eVar 1)) (aCons (toP (eVar 2)) (aCons (toP (eVar 3)) (aCons (toP (e2 opSub (eVar 4) (eC (.int 1)))) aNil)))))))) (sExp (eM1 opApp (eVar 10) (pV (toP (eVar 12)))))
noncomputable def b_law_term_2 (r_law_term : Fn) : Ss := sSeq (sSet 9 (toP (e2 opIx (eLst (aCons (toP (eC (.int 0))) (aCons (toP (eC (.int 0))) (aCons (toP (eC (.int 1))) (aCons (toP (eC (.int 2))) aNil))))) (e2 opMod (e2 opDiv (eVar 5) (e2 opIx (eLst (aCons (toP (eC (.int 12))) (aCons (toP (eC (.int 48))) (aCons (toP (eC (.int 192))) aNil)))) (eVar 11))) (eC (.int 4)))))) (sSeq (sPat (.tp [12, 6]) (toP (eCall r_law_term [] (aCons (toP (eVar 6)) (aCons (toP (e2 opAdd (eVar 1) (eVar 9))) (aCons (toP (eVar 2)) (aCons (toP (eVar 3)) (aCons (toP (e2 opSub (eVar 4) (eC (.int 1)))) aNil)))))))) (sExp (eM1 opApp (eVar 13) (pV (toP (eTup (aCons (toP (eVar 9)) (aCons (toP (eVar 12)) aNil))))))))
noncomputable def b_law_term (r_law_term : Fn) : Ss := sSeq (sIf (bOr (b2 cpEq (eVar 0) (eLst aNil)) (b2 cpEq (eVar 4) (eC (.int 0)))) (sRet (eTup (aCons (toP (eCall f_law_leaf [] (aCons (toP (eCall f_law_free [] (aCons (toP (e1 opSum (eSl (eVar 0) oNo (oSome (eC (.int 1)))))) (aCons (toP (eC (.int 0))) aNil)))) (aCons (toP (eVar 1)) (aCons (toP (eVar 2)) aNil))))) (aCons (toP (eSl (eVar 0) (oSome (eC (.int 1))) oNo)) aNil)))) sNop) (sSeq (sSet 5 (toP (eCall f_law_free [] (aCons (toP (e2 opIx (eVar 0) (eC (.int 0)))) (aCons (toP (eC (.int 1))) aNil))))) (sSeq (sSet 6 (toP (eSl (eVar 0) (oSome (eC (.int 1))) oNo))) (sSeq (sSet 7 (toP (e2 opMod (eVar 5) (eC (.int 8))))) (sSeq (sSet 5 (toP (e2 opDiv (eVar 5) (eC (.int 8))))) (sSeq (sIf (b2 cpLt (eVar 7) (eC (.int 2))) (sRet (eTup (aCons (toP (eCall f_law_leaf [] (aCons (toP (eVar 5)) (aCons (toP (eVar 1)) (aCons (toP (eVar 2)) aNil))))) (aCons (toP (eVar 6)) aNil)))) sNop) (sSeq (sIf (bAnd (b2 cpLt (eVar 7) (eC (.int 4))) (b2 cpNe (eVar 3) (eLst aNil))) (sSeq (sPat (.tp [8, 9]) (toP (e2 opIx (eVar 3) (e2 opMod (eVar 5) (e1 opLen (eVar 3)))))) (sSeq (sOwn 10 (eLst aNil)) (sSeq (sForIn (srcR1 (aCons (toP (eVar 9)) aNil)) (.nm 11) (b_law_term_1 r_law_term) [11, 12]) (sRet (eTup (aCons (toP (eTup (aCons (toP (eC (.str "hole"))) (aCons (toP (eVar 8)) (aCons (toP (e1 opTupOf (eVar 10))) aNil))))) (aCons (toP (eVar 6)) aNil))))))) sNop) (sSeq (sOwn 13 (eLst aNil)) (sSeq (sForIn (srcR1 (aCons (toP (e2 opAdd (eC (.int 1)) (e2 opMod (eVar 5) (eC (.int 3))))) aNil)) (.nm 11) (b_law_term_2 r_law_term) [9, 11, 12]) (sRet (eTup (aCons (toP (eTup (aCons (toP (eC (.str "sign"))) (aCons (toP (e2 opIx (eVar 2) (e2 opAdd (eC (.int 2)) (e2 opMod (e2 opMod (e2 opDiv (eVar 5) (eC (.int 3))) (eC (.int 4))) (eC (.int 3)))))) (aCons (toP (e1 opTupOf (eVar 13))) aNil))))) (aCons (toP (eVar 6)) aNil))))))))))))
noncomputable def f_law_term : Nat → Fn
  | 0 => fun _ _ => .bad
  | n + 1 => runDef 5 14 (b_law_term (f_law_term n))
noncomputable def b_law_straight_1 (r_law_straight : Fn) : Ss := sSeq (sPat (.tp [5, 15]) (toP (e2 opDvm (e2 opAdd (e2 opDiv (eVar 5) (eC (.int 3))) (e2 opMul (eC (.int 7)) (eVar 14))) (e1 opLen (eVar 12))))) (sExp (eM1 opApp (eVar 13) (pV (toP (eTup (aCons (toP (eC (.str "name"))) (aCons (toP (eM1 opPopAt (eVar 12) (eVar 15))) aNil)))))))
noncomputable def b_law_straight_2 (r_law_straight : Fn) : Ss := sSeq (sSet 11 (toP (e2 opIx (eLst (aCons (toP (eC (.int 0))) (aCons (toP (eC (.int 1))) (aCons (toP (eC (.int 1))) (aCons (toP (eC (.int 2))) aNil))))) (e2 opMod (e2 opDiv (eVar 5) (e2 opIx (eLst (aCons (toP (eC (.int 12))) (aCons (toP (eC (.int 48))) (aCons (toP (eC (.int 192))) aNil)))) (eVar 14))) (eC (.int 4)))))) (sSeq (sPat (.tp [9, 6]) (toP (eCall r_law_straight [] (aCons (toP (eVar 6)) (aCons (toP (e2 opAdd (eVar 1) (eVar 11))) (aCons (toP (eVar 2)) (aCons (toP (eVar 3)) (aCons (toP (e2 opSub (eVar 4) (eC (.int 1)))) aNil)))))))) (sExp (eM1 opApp (eVar 16) (pV (toP (eTup (aCons (toP (eVar 11)) (aCons (toP (eVar 9)) aNil))))))))
noncomputable def b_law_straight (r_law_straight : Fn) : Ss := sSeq (sIf (bOr (b2 cpEq (eVar 0) (eLst aNil)) (b2 cpEq (eVar 4) (eC (.int 0)))) (sRet (eTup (aCons (toP (eCall f_law_leaf [] (aCons (toP (eCall f_law_free [] (aCons (toP (e1 opSum (eSl (eVar 0) oNo (oSome (eC (.int 1)))))) (aCons (toP (eC (.int 0))) aNil)))) (aCons (toP (eVar 1)) (aCons (toP (eVar 2)) aNil))))) (aCons (toP (eSl (eVar 0) (oSome (eC (.int 1))) oNo)) aNil)))) sNop) (sSeq (sSet 5 (toP (eCall f_law_free [] (aCons (toP (e2 opIx (eVar 0) (eC (.int 0)))) (aCons (toP (eC (.int 2))) aNil))))) (sSeq (sSet 6 (toP (eSl (eVar 0) (oSome (eC (.int 1))) oNo))) (sSeq (sSet 7 (toP (e2 opMod (eVar 5) (eC (.int 8))))) (sSeq (sSet 5 (toP (e2 opDiv (eVar 5) (eC (.int 8))))) (sSeq (sSet 8 (toP (eLc (srcOf (eVar 3)) (.nm 9) [9] (b2 cpLe (e2 opIx (eVar 9) (eC (.int 1))) (eVar 1)) (toP (eVar 9))))) (sSeq (sIf (bAnd (b2 cpLt (eVar 7) (eC (.int 2))) (b2 cpEq (eVar 8) (eLst aNil))) (sRet (eTup (aCons (toP (eCall f_law_leaf [] (aCons (toP (eVar 5)) (aCons (toP (eVar 1)) (aCons (toP (eVar 2)) aNil))))) (aCons (toP (eVar 6)) aNil)))) sNop) (sSeq (sIf (bAnd (b2 cpLt (eVar 7) (eC (.int 4))) (b2 cpNe (eVar 8) (eLst aNil))) (sSeq (sPat (.tp [10, 11]) (toP (e2 opIx (eVar 8) (e2 opMod (eVar 5) (e1 opLen (eVar 8)))))) (sSeq (sOwn 12 (e1 opLstRg (eVar 1))) (sSeq (sOwn 13 (eLst aNil)) (sSeq (sForIn (srcR1 (aCons (toP (eVar 11)) aNil)) (.nm 14) (b_law_straight_1 r_law_straight) [14, 15]) (sRet (eTup (aCons (toP (eTup (aCons (toP (eC (.str "hole"))) (aCons (toP (eVar 10)) (aCons (toP (e1 opTupOf (eVar 13))) aNil))))) (aCons (toP (eVar 6)) aNil)))))))) sNop) (sSeq (sOwn 16 (eLst aNil)) (sSeq (sForIn (srcR1 (aCons (toP (e2 opAdd (eC (.int 1)) (e2 opMod (eVar 5) (eC (.int 3))))) aNil)) (.nm 14) (b_law_straight_2 r_law_straight) [9, 11, 14]) (sRet (eTup (aCons (toP (eTup (aCons (toP (eC (.str "sign"))) (aCons (toP (e2 opIx (eVar 2) (e2 opAdd (eC (.int 2)) (e2 opMod (e2 opMod (e2 opDiv (eVar 5) (eC (.int 3))) (eC (.int 4))) (eC (.int 3)))))) (aCons (toP (e1 opTupOf (eVar 16))) aNil))))) (aCons (toP (eVar 6)) aNil)))))))))))))
noncomputable def f_law_straight : Nat → Fn
  | 0 => fun _ _ => .bad
  | n + 1 => runDef 5 17 (b_law_straight (f_law_straight n))
noncomputable def b_law_holes : Ss := sSeq (sSet 2 (toP (e2 opIx (eLst (aCons (toP (eC (.int 5))) (aCons (toP (eC (.int 5))) (aCons (toP (eC (.int 0))) (aCons (toP (eC (.int 2))) aNil))))) (e2 opMod (eCall f_law_mix [] (aCons (toP (eVar 0)) (aCons (toP (eC (.int 55))) aNil))) (eC (.int 4)))))) (sRet (eLc (srcR1 (aCons (toP (eC (.int 4))) aNil)) (.nm 3) [3] bYes (toP (eTup (aCons (toP (e2 opIx (eVar 1) (e2 opAdd (eVar 2) (eVar 3)))) (aCons (toP (eVar 3)) aNil))))))
noncomputable def f_law_holes : Fn := runDef 2 4 b_law_holes
noncomputable def b_law_held_1 (r_law_held : Fn) : Ss := sExp (eCall r_law_held [] (aCons (toP (e2 opIx (eLst (aCons (toP (eVar 3)) (aCons (toP (e2 opIx (eVar 3) (eC (.int 1)))) aNil))) (e1 opIntOf (eB (b2 cpEq (e2 opIx (eVar 0) (eC (.int 0))) (eC (.str "sign"))))))) (aCons (toP (eVar 1)) aNil)))
noncomputable def b_law_held_2 (r_law_held : Fn) : Ss := sForIn (srcP (toP (eVar 2))) (.nm 3) (b_law_held_1 r_law_held) [3]
noncomputable def b_law_held (r_law_held : Fn) : Ss := sSeq (sIf (b2 cpEq (e2 opIx (eVar 0) (eC (.int 0))) (eC (.str "hole"))) (sSub (toP (e1 opLen (e2 opIx (eVar 0) (eC (.int 2))))) (eVar 1) (e2 opIx (eVar 0) (eC (.int 1)))) sNop) (sSeq (sForIn (srcP (toP (eSl (eVar 0) (oSome (eC (.int 2))) oNo))) (.nm 2) (b_law_held_2 r_law_held) [2, 3]) (sRet (eVar 1)))
noncomputable def f_law_held : Nat → Fn
  | 0 => fun _ _ => .bad
  | n + 1 => runDef 2 4 (b_law_held (f_law_held n))
noncomputable def b_law_rule : Ss := sSeq (sPat (.tp [3, 4]) (toP (eCall (f_law_straight 6) [] (aCons (toP (eVar 0)) (aCons (toP (eC (.int 0))) (aCons (toP (eVar 1)) (aCons (toP (eVar 2)) (aCons (toP (eC (.int 3))) aNil)))))))) (sSeq (sIf (b2 cpNe (e2 opIx (eVar 3) (eC (.int 0))) (eC (.str "sign"))) (sSet 3 (toP (eTup (aCons (toP (eC (.str "sign"))) (aCons (toP (e2 opIx (eVar 1) (eC (.int 2)))) (aCons (toP (eTup (aCons (toP (eTup (aCons (toP (eC (.int 0))) (aCons (toP (eVar 3)) aNil)))) aNil))) aNil)))))) sNop) (sSeq (sPat (.tp [5, 6]) (toP (eCall (f_law_term 6) [] (aCons (toP (eVar 4)) (aCons (toP (eC (.int 0))) (aCons (toP (eVar 1)) (aCons (toP (e1 opSortIt (eCall (f_law_held 12) [] (aCons (toP (eVar 3)) (aCons (toC eDct0) aNil))))) (aCons (toP (eC (.int 2))) aNil)))))))) (sRet (eTup (aCons (toP (eVar 3)) (aCons (toP (eVar 5)) aNil))))))
noncomputable def f_law_rule : Fn := runDef 3 7 b_law_rule
noncomputable def b_law_beside : Ss := sRet (eTup (aCons (toP (eC (.str "sign"))) (aCons (toP (e2 opIx (eVar 0) (eC (.int 1)))) (aCons (toP (e2 opAdd (e2 opIx (eVar 0) (eC (.int 2))) (eTup (aCons (toP (eTup (aCons (toP (eC (.int 0))) (aCons (toP (eVar 1)) aNil)))) aNil)))) aNil))))
noncomputable def f_law_beside : Fn := runDef 2 2 b_law_beside
noncomputable def b_law_spoiled : Ss := sSeq (sPat (.tp [3, 4]) (toP (eVar 0))) (sSeq (sSet 5 (toP (e1 opSortIt (eCall (f_law_held 12) [] (aCons (toP (eVar 3)) (aCons (toC eDct0) aNil)))))) (sSeq (sSet 6 (toP (eTup (aCons (toP (eC (.str "sign"))) (aCons (toP (e2 opIx (eVar 2) (eC (.int 0)))) (aCons (toP (eTup aNil)) aNil)))))) (sSeq (sSet 7 (toP (e2 opIx (eVar 2) (eC (.int 9))))) (sSeq (sIf (b2 cpNe (eVar 5) (eLst aNil)) (sSeq (sPat (.tp [7, 8]) (toP (e2 opIx (eVar 5) (e2 opMod (e2 opDiv (eVar 1) (eC (.int 16))) (e1 opLen (eVar 5)))))) (sSet 9 (toP (eTup (aCons (toP (eC (.str "hole"))) (aCons (toP (eVar 7)) (aCons (toP (e2 opTupRep (eTup (aCons (toP (eVar 6)) aNil)) (e2 opAdd (eVar 8) (eC (.int 1))))) aNil))))))) (sSet 9 (toP (eTup (aCons (toP (eC (.str "hole"))) (aCons (toP (eVar 7)) (aCons (toP (eTup aNil)) aNil))))))) (sSeq (sSet 10 (toP (eTup (aCons (toP (eC (.str "hole"))) (aCons (toP (e2 opIx (eVar 2) (eC (.int 9)))) (aCons (toP (eTup (aCons (toP (eTup (aCons (toP (eC (.str "name"))) (aCons (toP (eC (.int 0))) aNil)))) (aCons (toP (eTup (aCons (toP (eC (.str "name"))) (aCons (toP (eC (.int 0))) aNil)))) aNil)))) aNil)))))) (sSeq (sSet 11 (toP (eLst (aCons (toP (eTup (aCons (toP (eC (.str "hole"))) (aCons (toP (e2 opIx (eVar 2) (eC (.int 9)))) (aCons (toP (eTup aNil)) aNil))))) (aCons (toP (eTup (aCons (toP (eC (.str "sign"))) (aCons (toP (e2 opIx (eVar 2) (eC (.int 3)))) (aCons (toP (eTup (aCons (toP (eTup (aCons (toP (eC (.int 1))) (aCons (toP (eTup (aCons (toP (eC (.str "hole"))) (aCons (toP (e2 opIx (eVar 2) (eC (.int 9)))) (aCons (toP (eTup (aCons (toP (eTup (aCons (toP (eC (.str "name"))) (aCons (toP (eC (.int 0))) aNil)))) aNil))) aNil))))) aNil)))) aNil))) aNil))))) aNil))))) (sSeq (sOwn 12 (eLst (aCons (toP (eTup (aCons (toP (eTup (aCons (toP (eC (.str "hole"))) (aCons (toP (e2 opIx (eVar 2) (eC (.int 9)))) (aCons (toP (eTup aNil)) aNil))))) (aCons (toP (eVar 4)) aNil)))) (aCons (toP (eTup (aCons (toP (eTup (aCons (toP (eC (.str "name"))) (aCons (toP (eC (.int 0))) aNil)))) (aCons (toP (eVar 4)) aNil)))) aNil)))) (sSeq (sExp (eM1 opApp (eVar 12) (pV (toP (eTup (aCons (toP (eCall f_law_beside [] (aCons (toP (eVar 3)) (aCons (toP (eTup (aCons (toP (eC (.str "hole"))) (aCons (toP (e2 opIx (eVar 2) (eC (.int 9)))) (aCons (toP (eTup (aCons (toP (eVar 6)) aNil))) aNil))))) aNil)))) (aCons (toP (eVar 4)) aNil))))))) (sSeq (sExp (eM1 opApp (eVar 12) (pV (toP (eTup (aCons (toP (eCall f_law_beside [] (aCons (toP (eVar 3)) (aCons (toP (eTup (aCons (toP (eC (.str "sign"))) (aCons (toP (e2 opIx (eVar 2) (eC (.int 3)))) (aCons (toP (eTup (aCons (toP (eTup (aCons (toP (eC (.int 1))) (aCons (toP (eVar 10)) aNil)))) aNil))) aNil))))) aNil)))) (aCons (toP (eVar 4)) aNil))))))) (sSeq (sExp (eM1 opApp (eVar 12) (pV (toP (eTup (aCons (toP (eVar 3)) (aCons (toP (eTup (aCons (toP (eC (.str "sign"))) (aCons (toP (e2 opIx (eVar 2) (eC (.int 3)))) (aCons (toP (eTup (aCons (toP (eTup (aCons (toP (eC (.int 0))) (aCons (toP (eVar 4)) aNil)))) (aCons (toP (eTup (aCons (toP (eC (.int 0))) (aCons (toP (eTup (aCons (toP (eC (.str "hole"))) (aCons (toP (e2 opIx (eVar 2) (eC (.int 9)))) (aCons (toP (eTup aNil)) aNil))))) aNil)))) aNil)))) aNil))))) aNil))))))) (sSeq (sExp (eM1 opApp (eVar 12) (pV (toP (eTup (aCons (toP (eVar 3)) (aCons (toP (eTup (aCons (toP (eC (.str "sign"))) (aCons (toP (e2 opIx (eVar 2) (eC (.int 3)))) (aCons (toP (eTup (aCons (toP (eTup (aCons (toP (eC (.int 0))) (aCons (toP (eVar 4)) aNil)))) (aCons (toP (eTup (aCons (toP (eC (.int 0))) (aCons (toP (eVar 9)) aNil)))) aNil)))) aNil))))) aNil))))))) (sSeq (sExp (eM1 opApp (eVar 12) (pV (toP (eTup (aCons (toP (eCall f_law_beside [] (aCons (toP (eCall f_law_beside [] (aCons (toP (eVar 3)) (aCons (toP (e2 opIx (eVar 11) (eC (.int 0)))) aNil)))) (aCons (toP (e2 opIx (eVar 11) (eC (.int 1)))) aNil)))) (aCons (toP (eVar 4)) aNil))))))) (sSeq (sExp (eM1 opApp (eVar 12) (pV (toP (eTup (aCons (toP (eTup (aCons (toP (eC (.str "sign"))) (aCons (toP (e2 opIx (eVar 3) (eC (.int 1)))) (aCons (toP (e2 opAdd (e2 opIx (eVar 3) (eC (.int 2))) (eTup (aCons (toP (eTup (aCons (toP (eC (.int 1))) (aCons (toP (eTup (aCons (toP (eC (.str "name"))) (aCons (toP (eC (.int 1))) aNil)))) aNil)))) aNil)))) aNil))))) (aCons (toP (eVar 4)) aNil))))))) (sSeq (sExp (eM1 opApp (eVar 12) (pV (toP (eTup (aCons (toP (eVar 3)) (aCons (toP (eTup (aCons (toP (eC (.str "sign"))) (aCons (toP (e2 opIx (eVar 2) (eC (.int 3)))) (aCons (toP (eTup (aCons (toP (eTup (aCons (toP (eC (.int 0))) (aCons (toP (eVar 4)) aNil)))) (aCons (toP (eTup (aCons (toP (eC (.int 1))) (aCons (toP (eTup (aCons (toP (eC (.str "name"))) (aCons (toP (eC (.int 1))) aNil)))) aNil)))) aNil)))) aNil))))) aNil))))))) (sSeq (sOwn 12 (e2 opAdd (eVar 12) (eLst (aCons (toP (eLst (aCons (toP (eVar 3)) (aCons (toP (eVar 4)) aNil)))) (aCons (toP (eTup (aCons (toP (eVar 3)) (aCons (toP (eVar 4)) (aCons (toP (eVar 4)) aNil))))) (aCons (toP (eTup (aCons (toP (eVar 3)) aNil))) aNil)))))) (sSeq (sExp (eM1 opApp (eVar 12) (pV (toP (eTup (aCons (toP (eTup (aCons (toP (eC (.str "sign"))) (aCons (toP (e2 opIx (eVar 3) (eC (.int 1)))) (aCons (toP (e2 opAdd (e2 opIx (eVar 3) (eC (.int 2))) (eTup (aCons (toP (eTup (aCons (toP (eC (.bl true))) (aCons (toP (eVar 6)) aNil)))) aNil)))) aNil))))) (aCons (toP (eVar 4)) aNil))))))) (sSeq (sExp (eM1 opApp (eVar 12) (pV (toP (eTup (aCons (toP (eCall f_law_beside [] (aCons (toP (eVar 3)) (aCons (toP (eTup (aCons (toP (eC (.str "sign"))) (aCons (toP (e2 opIx (eLst (aCons (toP (eC (.str "A"))) (aCons (toP (eC (.str ""))) (aCons (toP (eC (.str "abcdefghi"))) (aCons (toP (eC (.int 7))) aNil))))) (e2 opMod (e2 opDiv (eVar 1) (eC (.int 16))) (eC (.int 4))))) (aCons (toP (eTup aNil)) aNil))))) aNil)))) (aCons (toP (eVar 4)) aNil))))))) (sSeq (sExp (eM1 opApp (eVar 12) (pV (toP (eTup (aCons (toP (eTup (aCons (toP (eC (.str "sign"))) (aCons (toP (e2 opIx (eVar 3) (eC (.int 1)))) (aCons (toP (e1 opLst (e2 opIx (eVar 3) (eC (.int 2))))) aNil))))) (aCons (toP (eVar 4)) aNil))))))) (sSeq (sExp (eM1 opApp (eVar 12) (pV (toP (e2 opIx (eLst (aCons (toP (eC .non)) (aCons (toP (eC (.int 5))) (aCons (toP (eC (.str "rule"))) (aCons (toP (eTup aNil)) aNil))))) (e2 opMod (e2 opDiv (eVar 1) (eC (.int 16))) (eC (.int 4)))))))) (sSeq (sSet 13 (toP (eLc (srcOf (eVar 5)) (.nm 14) [14] (b2 cpGt (e2 opIx (eVar 14) (eC (.int 1))) (eC (.int 0))) (toP (eVar 14))))) (sSeq (sIf (b2 cpNe (eVar 13) (eLst aNil)) (sSeq (sPat (.tp [15, 8]) (toP (e2 opIx (eVar 13) (e2 opMod (e2 opDiv (eVar 1) (eC (.int 16))) (e1 opLen (eVar 13)))))) (sSeq (sExp (eM1 opApp (eVar 12) (pV (toP (eTup (aCons (toP (eVar 3)) (aCons (toP (eTup (aCons (toP (eC (.str "hole"))) (aCons (toP (eVar 15)) (aCons (toP (e2 opTupRep (eTup (aCons (toP (eTup (aCons (toP (eC (.str "hole"))) (aCons (toP (e2 opIx (eVar 2) (eC (.int 9)))) (aCons (toP (eTup aNil)) aNil))))) aNil)) (eVar 8))) aNil))))) aNil))))))) (sExp (eM1 opApp (eVar 12) (pV (toP (eTup (aCons (toP (eVar 3)) (aCons (toP (eTup (aCons (toP (eC (.str "hole"))) (aCons (toP (eVar 15)) (aCons (toP (e2 opTupRep (eTup (aCons (toP (eTup (aCons (toP (eC (.str "hole"))) (aCons (toP (eVar 15)) (aCons (toP (eTup aNil)) aNil))))) aNil)) (eVar 8))) aNil))))) aNil))))))))) sNop) (sRet (e2 opIx (eVar 12) (e2 opMod (eVar 1) (e1 opLen (eVar 12))))))))))))))))))))))))))
noncomputable def f_law_spoiled : Fn := runDef 3 16 b_law_spoiled
noncomputable def b_law_1 : Ss := sIf (b2 cpIsn (eCall f_is_rule [] (aCons (toP (eCall f_law_spoiled [] (aCons (toP (eVar 3)) (aCons (toP (e2 opAdd (eVar 4) (e2 opMul (eC (.int 5)) (eVar 5)))) (aCons (toP (eVar 1)) aNil))))) aNil)) (eC (.bl false))) (sRet (eC (.bl false))) sNop
noncomputable def b_law : Ss := sSeq (sSet 1 (toP (eCall f_law_words [] (aCons (toP (eCall f_law_cell_at [] (aCons (toP (eVar 0)) (aCons (toP (eC (.int 0))) aNil)))) (aCons (toP (eC (.int 10))) aNil))))) (sSeq (sSet 2 (toP (eCall f_law_holes [] (aCons (toP (eCall f_law_cell_at [] (aCons (toP (eVar 0)) (aCons (toP (eC (.int 0))) aNil)))) (aCons (toP (eVar 1)) aNil))))) (sSeq (sSet 3 (toP (eCall f_law_rule [] (aCons (toP (eSl (eVar 0) (oSome (eC (.int 1))) (oSome (eC (.int 25))))) (aCons (toP (eVar 1)) (aCons (toP (eVar 2)) aNil)))))) (sSeq (sIf (b2 cpIsn (eCall f_is_rule [] (aCons (toP (eVar 3)) aNil)) (eC (.bl true))) (sRet (eC (.bl false))) sNop) (sSeq (sSet 4 (toP (eCall f_law_mix [] (aCons (toP (eCall f_law_cell_at [] (aCons (toP (eVar 0)) (aCons (toP (eC (.int 0))) aNil)))) (aCons (toP (eC (.int 50))) aNil))))) (sSeq (sForIn (srcR1 (aCons (toP (eC (.int 4))) aNil)) (.nm 5) b_law_1 [5]) (sRet (eB (b2 cpIs (eCall f_is_rule [] (aCons (toP (eVar 3)) aNil)) (eC (.bl true))))))))))
noncomputable def f_law : Fn := runDef 1 6 b_law
end HF

end
section
set_option Elab.async false
set_option linter.all false
set_option maxRecDepth 20000
set_option autoImplicit false
namespace HF
open PySem PySem.Spec PyProof.Rows L2
def top (i : Nat) : Stmt := PySem.Challenge.pw_holeform_k60_is_rule.main.body.getD i (.Pass ⟨0, 0, 0, 0⟩)
abbrev s_is_count : Stmt := top 3
abbrev s_is_word : Stmt := top 4
abbrev s_is_part : Stmt := top 5
abbrev s_is_term : Stmt := top 6
abbrev s_inner_terms : Stmt := top 7
abbrev s_told_names : Stmt := top 9
abbrev s_is_straight : Stmt := top 10
abbrev s_holes_alike : Stmt := top 12
abbrev s_is_rule : Stmt := top 13
abbrev s_law_mix : Stmt := top 15
abbrev s_law_free : Stmt := top 16
abbrev s_law_words : Stmt := top 17
abbrev s_law_cell_at : Stmt := top 18
abbrev s_law_leaf : Stmt := top 19
abbrev s_law_term : Stmt := top 20
abbrev s_law_straight : Stmt := top 21
abbrev s_law_holes : Stmt := top 22
abbrev s_law_held : Stmt := top 23
abbrev s_law_rule : Stmt := top 24
abbrev s_law_beside : Stmt := top 25
abbrev s_law_spoiled : Stmt := top 26
abbrev s_law : Stmt := top 27
structure Tops (Z : Wd) : Prop where
  t_is_count : DefAt Z "is_count" s_is_count ["thing"]
  t_is_word : DefAt Z "is_word" s_is_word ["thing"]
  t_is_part : DefAt Z "is_part" s_is_part ["thing", "scope"]
  t_is_term : DefAtD Z "is_term" s_is_term ["thing", "scope"] [.int 0]
  t_inner_terms : DefAt Z "inner_terms" s_inner_terms ["term"]
  t_told_names : DefAt Z "told_names" s_told_names ["term"]
  t_is_straight : DefAt Z "is_straight" s_is_straight ["term"]
  t_holes_alike : DefAt Z "holes_alike" s_holes_alike ["term", "known"]
  t_is_rule : DefAt Z "is_rule" s_is_rule ["thing"]
  t_law_mix : DefAt Z "_law_mix" s_law_mix ["_law_cell", "_law_place"]
  t_law_free : DefAt Z "_law_free" s_law_free ["_law_cell", "_law_place"]
  t_law_words : DefAt Z "_law_words" s_law_words ["_law_cell", "_law_many"]
  t_law_cell_at : DefAt Z "_law_cell_at" s_law_cell_at ["_law_script", "_law_k"]
  t_law_leaf : DefAt Z "_law_leaf" s_law_leaf ["_law_number", "_law_scope", "_law_words_here"]
  t_law_term : DefAt Z "_law_term" s_law_term ["_law_cells", "_law_scope", "_law_words_here", "_law_holes_here", "_law_deep"]
  t_law_straight : DefAt Z "_law_straight" s_law_straight ["_law_cells", "_law_scope", "_law_words_here", "_law_holes_here", "_law_deep"]
  t_law_holes : DefAt Z "_law_holes" s_law_holes ["_law_cell", "_law_words_here"]
  t_law_held : DefAt Z "_law_held" s_law_held ["_law_term_here", "_law_known"]
  t_law_rule : DefAt Z "_law_rule" s_law_rule ["_law_cells", "_law_words_here", "_law_holes_here"]
  t_law_beside : DefAt Z "_law_beside" s_law_beside ["_law_side", "_law_term_here"]
  t_law_spoiled : DefAt Z "_law_spoiled" s_law_spoiled ["_law_rule_here", "_law_number", "_law_words_here"]
  t_law : DefAt Z "law" s_law ["_law_script"]
  m_all : Z.mg "all" = none
  m_bool : Z.mg "bool" = none
  m_divmod : Z.mg "divmod" = none
  m_int : Z.mg "int" = none
  m_isinstance : Z.mg "isinstance" = none
  m_len : Z.mg "len" = none
  m_list : Z.mg "list" = none
  m_range : Z.mg "range" = none
  m_sorted : Z.mg "sorted" = none
  m_str : Z.mg "str" = none
  m_sum : Z.mg "sum" = none
  m_tuple : Z.mg "tuple" = none
  g_LETTERS : StrAt Z "LETTERS" "abcdefghijklmnopqrstuvwxyz"
  g_MOST_LETTERS : IntAt Z "MOST_LETTERS" 8
abbrev n_is_count : List Str := ["thing"]
theorem sc_is_count : FnScope n_is_count ["thing"] (defScope s_is_count) := ⟨rfl, rfl, rfl, by decide +kernel, rfl, by decide +kernel, by decide +kernel⟩
set_option maxHeartbeats 4000000 in
theorem d_is_count {Z : Wd} (T : Tops Z) : ∀ f fd, Fun Z.K "is_count" "is_count" s_is_count f fd → FnOk Z.P Z.w Z.K Z.mg Z.base (L2.CX Z.P Z.w) (0 + 1) f fd ["thing"] (spOf Z.T Z.K Z.mg (runDef 1 1 (b_is_count))) := fun f fd F =>
  def_ok F sc_is_count fun X E W A hT => fss_one (fs_ret (fe_and (fe_isi A T.m_isinstance T.m_int boot_tint (fe_var A (i := 0) rfl rfl)) (fe_and (fe_not (fe_isi A T.m_isinstance T.m_bool boot_tbool (fe_var A (i := 0) rfl rfl))) (fe_one (fe_ge (fe_var A (i := 0) rfl rfl) fe_int)))))
theorem k_is_count {Z : Wd} (T : Tops Z) : Known Z 1 "is_count" [] f_is_count := T.t_is_count.known (d_is_count T)
abbrev n_is_word : List Str := ["thing", "sign"]
theorem sc_is_word : FnScope n_is_word ["thing"] (defScope s_is_word) := ⟨rfl, rfl, rfl, by decide +kernel, rfl, by decide +kernel, by decide +kernel⟩
set_option maxHeartbeats 4000000 in
theorem d_is_word {Z : Wd} (T : Tops Z) : ∀ f fd, Fun Z.K "is_word" "is_word" s_is_word f fd → FnOk Z.P Z.w Z.K Z.mg Z.base (L2.CX Z.P Z.w) (0 + 1) f fd ["thing"] (spOf Z.T Z.K Z.mg (runDef 1 2 (b_is_word))) := fun f fd F =>
  def_ok F sc_is_word fun X E W A hT => fss_cons (fs_if ((fw_or (ft_not (ft_val (fe_isi A T.m_isinstance T.m_str boot_tstr (fe_var A (i := 0) rfl rfl)))) (fw_or1 (ft_not (ft_chain op_le op_le cpI_ok cpI_ok fe_int (fe_len A T.m_len (fe_var A (i := 0) rfl rfl)) (fe_gintA A T.g_MOST_LETTERS))))).ft) (fss_one (fs_ret fe_bl)) fss_nil) (fss_one (fs_ret (fe_all A T.m_all (lc_rule A (own := [("sign", 1)]) (fi_of (fe_var A (i := 0) rfl rfl)) (by decide +kernel) (by decide) (fun _ A' => fg_name A' (i := 1) rfl rfl) (fun _ A' => fts_nil) (fun _ A' => (fe_in A' (fe_var A' (i := 1) rfl rfl) (fe_gstrA A' T.g_LETTERS)).toP)))))
theorem k_is_word {Z : Wd} (T : Tops Z) : Known Z 1 "is_word" [] f_is_word := T.t_is_word.known (d_is_word T)
abbrev n_is_term : List Str := ["thing", "scope", "part", "one"]
theorem sc_is_term : FnScope n_is_term ["thing", "scope"] (defScope s_is_term) := ⟨rfl, rfl, rfl, by decide +kernel, rfl, by decide +kernel, by decide +kernel⟩
abbrev n_is_part : List Str := ["thing", "scope"]
theorem sc_is_part : FnScope n_is_part ["thing", "scope"] (defScope s_is_part) := ⟨rfl, rfl, rfl, by decide +kernel, rfl, by decide +kernel, by decide +kernel⟩
set_option maxHeartbeats 4000000 in
theorem d_is_term {Z : Wd} {k : Nat} (T : Tops Z) {r_is_term : Fn} {r_is_part : Fn} (K_is_term : Known Z k "is_term" [] r_is_term) (K_is_term_d1 : Known Z k "is_term" [.int 0] r_is_term) (K_is_part : Known Z k "is_part" [] r_is_part) (hk : 1 ≤ k) : ∀ f fd, FunD Z.K "is_term" "is_term" (defArgs s_is_term) (defBody s_is_term) (defScope s_is_term) [.int 0] [] f fd → FnOk Z.P Z.w Z.K Z.mg Z.base (L2.CX Z.P Z.w) (k + 1) f fd ["thing", "scope"] (spP (fun _ _ => True) Z.T Z.K Z.mg (runDef 2 4 (b_is_term r_is_term r_is_part))) := fun f fd F =>
  defP_ok F sc_is_term fun X E W A hT _ => fss_cons (fs_if ((fw_or (ft_not (ft_val (fe_isi A T.m_isinstance T.m_tuple boot_ttuple (fe_var A (i := 0) rfl rfl)))) (fw_or (ft_eq A (fe_len A T.m_len (fe_var A (i := 0) rfl rfl)) fe_int) (fw_or1 (ft_not (ft_val (fe_isi A T.m_isinstance T.m_str boot_tstr (fe_ix A (fe_var A (i := 0) rfl rfl) fe_int))))))).ft) (fss_one (fs_ret fe_bl)) fss_nil) (fss_cons (fs_if (ft_eq A (fe_ix A (fe_var A (i := 0) rfl rfl) fe_int) fe_str) (fss_one (fs_ret (fe_and (fe_eq A (fe_len A T.m_len (fe_var A (i := 0) rfl rfl)) fe_int) (fe_and (fe_call A hT ((k_is_count T).mono (Nat.le_trans (by decide) hk)) (fl_cons ((fe_ix A (fe_var A (i := 0) rfl rfl) fe_int).toP) fl_nil)) (fe_one (fe_lt (fe_ix A (fe_var A (i := 0) rfl rfl) fe_int) (fe_var A (i := 1) rfl rfl))))))) fss_nil) (fss_cons (fs_if ((fw_or (ft_ne A (fe_len A T.m_len (fe_var A (i := 0) rfl rfl)) fe_int) (fw_or (ft_not (ft_val (fe_call A hT ((k_is_word T).mono (Nat.le_trans (by decide) hk)) (fl_cons ((fe_ix A (fe_var A (i := 0) rfl rfl) fe_int).toP) fl_nil)))) (fw_or1 (ft_not (ft_val (fe_isi A T.m_isinstance T.m_tuple boot_ttuple (fe_ix A (fe_var A (i := 0) rfl rfl) fe_int))))))).ft) (fss_one (fs_ret fe_bl)) fss_nil) (fss_cons (fs_if (ft_eq A (fe_ix A (fe_var A (i := 0) rfl rfl) fe_int) fe_str) (fss_one (fs_ret (fe_all A T.m_all (lc_rule A (own := [("part", 2)]) (fi_of (fe_ix A (fe_var A (i := 0) rfl rfl) fe_int)) (by decide +kernel) (by decide) (fun _ A' => fg_name A' (i := 2) rfl rfl) (fun _ A' => fts_nil) (fun _ A' => (fe_call A' hT K_is_part (fl_cons ((fe_var A' (i := 2) rfl rfl).toP) (fl_cons ((fe_var A' (i := 1) rfl rfl).toP) fl_nil))).toP))))) fss_nil) (fss_one (fs_ret (fe_and (fe_eq A (fe_ix A (fe_var A (i := 0) rfl rfl) fe_int) fe_str) (fe_one (fe_all A T.m_all (lc_rule A (own := [("one", 3)]) (fi_of (fe_ix A (fe_var A (i := 0) rfl rfl) fe_int)) (by decide +kernel) (by decide) (fun _ A' => fg_name A' (i := 3) rfl rfl) (fun _ A' => fts_nil) (fun _ A' => (fe_call A' hT K_is_term (fl_cons ((fe_var A' (i := 3) rfl rfl).toP) (fl_cons ((fe_var A' (i := 1) rfl rfl).toP) fl_nil))).toP))))))))))
set_option maxHeartbeats 4000000 in
theorem d_is_part {Z : Wd} {k : Nat} (T : Tops Z) {r_is_term : Fn} {r_is_part : Fn} (K_is_term : Known Z k "is_term" [] r_is_term) (K_is_term_d1 : Known Z k "is_term" [.int 0] r_is_term) (K_is_part : Known Z k "is_part" [] r_is_part) (hk : 1 ≤ k) : ∀ f fd, Fun Z.K "is_part" "is_part" s_is_part f fd → FnOk Z.P Z.w Z.K Z.mg Z.base (L2.CX Z.P Z.w) (k + 1) f fd ["thing", "scope"] (spOf Z.T Z.K Z.mg (runDef 2 2 (b_is_part r_is_term r_is_part))) := fun f fd F =>
  def_ok F sc_is_part fun X E W A hT => fss_cons (fs_if ((fw_or (ft_not (ft_val (fe_isi A T.m_isinstance T.m_tuple boot_ttuple (fe_var A (i := 0) rfl rfl)))) (fw_or (ft_ne A (fe_len A T.m_len (fe_var A (i := 0) rfl rfl)) fe_int) (fw_or1 (ft_not (ft_val (fe_call A hT ((k_is_count T).mono (Nat.le_trans (by decide) hk)) (fl_cons ((fe_ix A (fe_var A (i := 0) rfl rfl) fe_int).toP) fl_nil))))))).ft) (fss_one (fs_ret fe_bl)) fss_nil) (fss_one (fs_ret (fe_call A hT K_is_term (fl_cons ((fe_ix A (fe_var A (i := 0) rfl rfl) fe_int).toP) (fl_cons ((fe_add (fe_var A (i := 1) rfl rfl) (fe_ix A (fe_var A (i := 0) rfl rfl) fe_int)).toP) fl_nil)))))
theorem ks_is_term {Z : Wd} (T : Tops Z) : ∀ n : Nat, Known Z (1 + n) "is_term" [] (f_is_term n) ∧ Known Z (1 + n) "is_term" [.int 0] (f_is_term n) ∧ Known Z (1 + n) "is_part" [] (f_is_part n)
  | 0 => ⟨T.t_is_term.none, T.t_is_term.none_d1, T.t_is_part.none⟩
  | n + 1 => by
    have ih := ks_is_term T n
    exact ⟨T.t_is_term.known (d_is_term T ih.1 ih.2.1 ih.2.2 (Nat.le_add_right _ n)), T.t_is_term.known_d1 (d_is_term T ih.1 ih.2.1 ih.2.2 (Nat.le_add_right _ n)), T.t_is_part.known (d_is_part T ih.1 ih.2.1 ih.2.2 (Nat.le_add_right _ n))⟩
theorem k_is_term {Z : Wd} (T : Tops Z) : Known Z 23 "is_term" [] (f_is_term 22) := (ks_is_term T 22).1
theorem k_is_term_d1 {Z : Wd} (T : Tops Z) : Known Z 23 "is_term" [.int 0] (f_is_term 22) := (ks_is_term T 22).2.1
theorem k_is_part {Z : Wd} (T : Tops Z) : Known Z 23 "is_part" [] (f_is_part 22) := (ks_is_term T 22).2.2
abbrev n_inner_terms : List Str := ["term", "one"]
theorem sc_inner_terms : FnScope n_inner_terms ["term"] (defScope s_inner_terms) := ⟨rfl, rfl, rfl, by decide +kernel, rfl, by decide +kernel, by decide +kernel⟩
set_option maxHeartbeats 4000000 in
theorem d_inner_terms {Z : Wd} (T : Tops Z) : ∀ f fd, Fun Z.K "inner_terms" "inner_terms" s_inner_terms f fd → FnOk Z.P Z.w Z.K Z.mg Z.base (L2.CX Z.P Z.w) (0 + 1) f fd ["term"] (spOf Z.T Z.K Z.mg (runDef 1 2 (b_inner_terms))) := fun f fd F =>
  def_ok F sc_inner_terms fun X E W A hT => fss_cons (fs_if (ft_eq A (fe_ix A (fe_var A (i := 0) rfl rfl) fe_int) fe_str) (fss_one (fs_ret (fe_lst fl_nil))) fss_nil) (fss_cons (fs_if (ft_eq A (fe_ix A (fe_var A (i := 0) rfl rfl) fe_int) fe_str) (fss_one (fs_ret (fe_list A T.m_list (fe_ix A (fe_var A (i := 0) rfl rfl) fe_int)))) fss_nil) (fss_one (fs_ret (lc_rule A (own := [("one", 1)]) (fi_of (fe_ix A (fe_var A (i := 0) rfl rfl) fe_int)) (by decide +kernel) (by decide) (fun _ A' => fg_name A' (i := 1) rfl rfl) (fun _ A' => fts_nil) (fun _ A' => (fe_tup (fl_cons fe_int.toP (fl_cons ((fe_var A' (i := 1) rfl rfl).toP) fl_nil))).toP)))))
theorem k_inner_terms {Z : Wd} (T : Tops Z) : Known Z 1 "inner_terms" [] f_inner_terms := T.t_inner_terms.known (d_inner_terms T)
abbrev n_told_names : List Str := ["term", "names", "one"]
theorem sc_told_names : FnScope n_told_names ["term"] (defScope s_told_names) := ⟨rfl, rfl, rfl, by decide +kernel, rfl, by decide +kernel, by decide +kernel⟩
set_option maxHeartbeats 4000000 in
theorem d_told_names {Z : Wd} (T : Tops Z) : ∀ f fd, Fun Z.K "told_names" "told_names" s_told_names f fd → FnOk Z.P Z.w Z.K Z.mg Z.base (L2.CX Z.P Z.w) (0 + 1) f fd ["term"] (spOf Z.T Z.K Z.mg (runDef 1 3 (b_told_names))) := fun f fd F =>
  def_ok F sc_told_names fun X E W A hT => fss_cons (fs_if (ft_ne A (fe_ix A (fe_var A (i := 0) rfl rfl) fe_int) fe_str) (fss_one (fs_ret fe_non)) fss_nil) (fss_cons (fs_own A (i := 1) rfl rfl (fe_lst fl_nil)) (fss_cons (fs_for A [2] (fi_of ((fe_ix A (fe_var A (i := 0) rfl rfl) fe_int).toP).fe) srcP_ns (fg_name A (i := 2) rfl rfl) (fss_cons (fs_if ((fw_or (ft_ne A (fe_ix A (fe_var A (i := 2) rfl rfl) fe_int) fe_str) (fw_or1 (ft_in A (fe_ix A (fe_var A (i := 2) rfl rfl) fe_int) (fe_var A (i := 1) rfl rfl)))).ft) (fss_one (fs_ret fe_non)) fss_nil) (fss_one (fs_exp (fe_append (fe_var A (i := 1) rfl rfl) ((fe_ix A (fe_var A (i := 2) rfl rfl) fe_int).toP)))))) (fss_one (fs_ret (fe_tuple A T.m_tuple (fe_var A (i := 1) rfl rfl))))))
theorem k_told_names {Z : Wd} (T : Tops Z) : Known Z 1 "told_names" [] f_told_names := T.t_told_names.known (d_told_names T)
abbrev n_is_straight : List Str := ["term", "many", "part"]
theorem sc_is_straight : FnScope n_is_straight ["term"] (defScope s_is_straight) := ⟨rfl, rfl, rfl, by decide +kernel, rfl, by decide +kernel, by decide +kernel⟩
set_option maxHeartbeats 4000000 in
theorem d_is_straight {Z : Wd} {k : Nat} (T : Tops Z) {r_is_straight : Fn} (K_is_straight : Known Z k "is_straight" [] r_is_straight) (hk : 1 ≤ k) : ∀ f fd, Fun Z.K "is_straight" "is_straight" s_is_straight f fd → FnOk Z.P Z.w Z.K Z.mg Z.base (L2.CX Z.P Z.w) (k + 1) f fd ["term"] (spOf Z.T Z.K Z.mg (runDef 1 3 (b_is_straight r_is_straight))) := fun f fd F =>
  def_ok F sc_is_straight fun X E W A hT => fss_cons (fs_if (ft_eq A (fe_ix A (fe_var A (i := 0) rfl rfl) fe_int) fe_str) (fss_one (fs_ret fe_bl)) fss_nil) (fss_cons (fs_if (ft_eq A (fe_ix A (fe_var A (i := 0) rfl rfl) fe_int) fe_str) (fss_one (fs_ret (fe_all A T.m_all (lc_rule A (own := [("many", 1), ("part", 2)]) (fi_of (fe_ix A (fe_var A (i := 0) rfl rfl) fe_int)) (by decide +kernel) (by decide) (fun _ A' => fg_tup A' (fgs_cons (fg_name A' (i := 1) rfl rfl) (fgs_cons (fg_name A' (i := 2) rfl rfl) fgs_nil))) (fun _ A' => fts_nil) (fun _ A' => (fe_call A' hT K_is_straight (fl_cons ((fe_var A' (i := 2) rfl rfl).toP) fl_nil)).toP))))) fss_nil) (fss_one (fs_ret (fe_notN (fe_call A hT ((k_told_names T).mono (Nat.le_trans (by decide) hk)) (fl_cons ((fe_var A (i := 0) rfl rfl).toP) fl_nil))))))
theorem ks_is_straight {Z : Wd} (T : Tops Z) : ∀ n : Nat, Known Z (1 + n) "is_straight" [] (f_is_straight n)
  | 0 => T.t_is_straight.none
  | n + 1 => by
    have ih := ks_is_straight T n
    exact T.t_is_straight.known (d_is_straight T ih (Nat.le_add_right _ n))
theorem k_is_straight {Z : Wd} (T : Tops Z) : Known Z 13 "is_straight" [] (f_is_straight 12) := (ks_is_straight T 12)
abbrev n_holes_alike : List Str := ["term", "known", "many", "inner"]
theorem sc_holes_alike : FnScope n_holes_alike ["term", "known"] (defScope s_holes_alike) := ⟨rfl, rfl, rfl, by decide +kernel, rfl, by decide +kernel, by decide +kernel⟩
set_option maxHeartbeats 4000000 in
theorem d_holes_alike {Z : Wd} {k : Nat} (T : Tops Z) {r_holes_alike : Fn} (K_holes_alike : Known Z k "holes_alike" [] r_holes_alike) (hk : 1 ≤ k) : ∀ f fd, Fun Z.K "holes_alike" "holes_alike" s_holes_alike f fd → FnOk Z.P Z.w Z.K Z.mg Z.base (L2.CX Z.P Z.w) (k + 1) f fd ["term", "known"] (spOf Z.T Z.K Z.mg (runDef 2 4 (b_holes_alike r_holes_alike))) := fun f fd F =>
  def_ok F sc_holes_alike fun X E W A hT => fss_cons (fs_if ((fw_and (ft_eq A (fe_ix A (fe_var A (i := 0) rfl rfl) fe_int) fe_str) (fw_and1 (ft_ne A (fe_setd (fe_var A (i := 1) rfl rfl) (fe_ix A (fe_var A (i := 0) rfl rfl) fe_int) ((fe_len A T.m_len (fe_ix A (fe_var A (i := 0) rfl rfl) fe_int)).toP)) (fe_len A T.m_len (fe_ix A (fe_var A (i := 0) rfl rfl) fe_int))))).ft) (fss_one (fs_ret fe_bl)) fss_nil) (fss_one (fs_ret (fe_all A T.m_all (lc_rule A (own := [("many", 2), ("inner", 3)]) (fi_of (fe_call A hT ((k_inner_terms T).mono (Nat.le_trans (by decide) hk)) (fl_cons ((fe_var A (i := 0) rfl rfl).toP) fl_nil))) (by decide +kernel) (by decide) (fun _ A' => fg_tup A' (fgs_cons (fg_name A' (i := 2) rfl rfl) (fgs_cons (fg_name A' (i := 3) rfl rfl) fgs_nil))) (fun _ A' => fts_nil) (fun _ A' => (fe_call A' hT K_holes_alike (fl_cons ((fe_var A' (i := 3) rfl rfl).toP) (fl_cons ((fe_var A' (i := 1) rfl rfl).toP) fl_nil))).toP)))))
theorem ks_holes_alike {Z : Wd} (T : Tops Z) : ∀ n : Nat, Known Z (1 + n) "holes_alike" [] (f_holes_alike n)
  | 0 => T.t_holes_alike.none
  | n + 1 => by
    have ih := ks_holes_alike T n
    exact T.t_holes_alike.known (d_holes_alike T ih (Nat.le_add_right _ n))
theorem k_holes_alike {Z : Wd} (T : Tops Z) : Known Z 13 "holes_alike" [] (f_holes_alike 12) := (ks_holes_alike T 12)
abbrev n_is_rule : List Str := ["thing", "left", "right", "known", "many"]
theorem sc_is_rule : FnScope n_is_rule ["thing"] (defScope s_is_rule) := ⟨rfl, rfl, rfl, by decide +kernel, rfl, by decide +kernel, by decide +kernel⟩
set_option maxHeartbeats 4000000 in
theorem d_is_rule {Z : Wd} (T : Tops Z) : ∀ f fd, Fun Z.K "is_rule" "is_rule" s_is_rule f fd → FnOk Z.P Z.w Z.K Z.mg Z.base (L2.CX Z.P Z.w) (23 + 1) f fd ["thing"] (spOf Z.T Z.K Z.mg (runDef 1 5 (b_is_rule))) := fun f fd F =>
  def_ok F sc_is_rule fun X E W A hT => fss_cons (fs_if ((fw_or (ft_not (ft_val (fe_isi A T.m_isinstance T.m_tuple boot_ttuple (fe_var A (i := 0) rfl rfl)))) (fw_or1 (ft_ne A (fe_len A T.m_len (fe_var A (i := 0) rfl rfl)) fe_int))).ft) (fss_one (fs_ret fe_bl)) fss_nil) (fss_cons (fs_pat (fg_tup A (fgs_cons (fg_name A (i := 1) rfl rfl) (fgs_cons (fg_name A (i := 2) rfl rfl) fgs_nil))) ((fe_var A (i := 0) rfl rfl).toP)) (fss_cons (fs_if ((fw_or (ft_not (ft_val (fe_call A hT ((k_is_term_d1 T).mono (by decide)) (fl_cons ((fe_var A (i := 1) rfl rfl).toP) fl_nil)))) (fw_or (ft_not (ft_val (fe_call A hT ((k_is_term_d1 T).mono (by decide)) (fl_cons ((fe_var A (i := 2) rfl rfl).toP) fl_nil)))) (fw_or (ft_ne A (fe_ix A (fe_var A (i := 1) rfl rfl) fe_int) fe_str) (fw_or1 (ft_not (ft_val (fe_call A hT ((k_is_straight T).mono (by decide)) (fl_cons ((fe_var A (i := 1) rfl rfl).toP) fl_nil)))))))).ft) (fss_one (fs_ret fe_bl)) fss_nil) (fss_cons (fs_cell A (i := 3) rfl rfl fe_dct0) (fss_cons (fs_if (ft_not (ft_val (fe_call A hT ((k_holes_alike T).mono (by decide)) (fl_cons ((fe_var A (i := 1) rfl rfl).toP) (fl_cons ((fe_var A (i := 3) rfl rfl).toP) fl_nil))))) (fss_one (fs_ret fe_bl)) fss_nil) (fss_cons (fs_set A (i := 4) rfl rfl ((fe_len A T.m_len (fe_var A (i := 3) rfl rfl)).toP)) (fss_one (fs_ret (fe_and (fe_call A hT ((k_holes_alike T).mono (by decide)) (fl_cons ((fe_var A (i := 2) rfl rfl).toP) (fl_cons ((fe_var A (i := 3) rfl rfl).toP) fl_nil))) (fe_one (fe_eq A (fe_len A T.m_len (fe_var A (i := 3) rfl rfl)) (fe_var A (i := 4) rfl rfl)))))))))))
theorem k_is_rule {Z : Wd} (T : Tops Z) : Known Z 24 "is_rule" [] f_is_rule := T.t_is_rule.known (d_is_rule T)
abbrev n_law_mix : List Str := ["_law_cell", "_law_place", "_law_first"]
theorem sc_law_mix : FnScope n_law_mix ["_law_cell", "_law_place"] (defScope s_law_mix) := ⟨rfl, rfl, rfl, by decide +kernel, rfl, by decide +kernel, by decide +kernel⟩
set_option maxHeartbeats 4000000 in
theorem d_law_mix {Z : Wd} (T : Tops Z) : ∀ f fd, Fun Z.K "_law_mix" "_law_mix" s_law_mix f fd → FnOk Z.P Z.w Z.K Z.mg Z.base (L2.CX Z.P Z.w) (0 + 1) f fd ["_law_cell", "_law_place"] (spOf Z.T Z.K Z.mg (runDef 2 3 (b_law_mix))) := fun f fd F =>
  def_ok F sc_law_mix fun X E W A hT => fss_cons (fs_set A (i := 2) rfl rfl ((fe_mod (fe_mul (fe_add (fe_mod (fe_var A (i := 0) rfl rfl) (fe_pow fe_int fe_int)) fe_int) (fe_add fe_int (fe_mul fe_int (fe_var A (i := 1) rfl rfl)))) fe_int).toP)) (fss_one (fs_ret (fe_mod (fe_mul (fe_var A (i := 2) rfl rfl) (fe_var A (i := 2) rfl rfl)) fe_int)))
theorem k_law_mix {Z : Wd} (T : Tops Z) : Known Z 1 "_law_mix" [] f_law_mix := T.t_law_mix.known (d_law_mix T)
abbrev n_law_free : List Str := ["_law_cell", "_law_place"]
theorem sc_law_free : FnScope n_law_free ["_law_cell", "_law_place"] (defScope s_law_free) := ⟨rfl, rfl, rfl, by decide +kernel, rfl, by decide +kernel, by decide +kernel⟩
set_option maxHeartbeats 4000000 in
theorem d_law_free {Z : Wd} (T : Tops Z) : ∀ f fd, Fun Z.K "_law_free" "_law_free" s_law_free f fd → FnOk Z.P Z.w Z.K Z.mg Z.base (L2.CX Z.P Z.w) (1 + 1) f fd ["_law_cell", "_law_place"] (spOf Z.T Z.K Z.mg (runDef 2 2 (b_law_free))) := fun f fd F =>
  def_ok F sc_law_free fun X E W A hT => fss_cons (fs_if (ft_eq A (fe_mod (fe_var A (i := 0) rfl rfl) fe_int) fe_int) (fss_one (fs_ret (fe_mod (fe_div (fe_var A (i := 0) rfl rfl) fe_int) (fe_pow fe_int fe_int)))) fss_nil) (fss_one (fs_ret (fe_call A hT ((k_law_mix T).mono (by decide)) (fl_cons ((fe_div (fe_var A (i := 0) rfl rfl) fe_int).toP) (fl_cons ((fe_var A (i := 1) rfl rfl).toP) fl_nil)))))
theorem k_law_free {Z : Wd} (T : Tops Z) : Known Z 2 "_law_free" [] f_law_free := T.t_law_free.known (d_law_free T)
abbrev n_law_words : List Str := ["_law_cell", "_law_many", "_law_letters", "_law_long", "_law_stem", "_law_k", "_law_spot", "_law_first"]
theorem sc_law_words : FnScope n_law_words ["_law_cell", "_law_many"] (defScope s_law_words) := ⟨rfl, rfl, rfl, by decide +kernel, rfl, by decide +kernel, by decide +kernel⟩
set_option maxHeartbeats 4000000 in
theorem d_law_words {Z : Wd} (T : Tops Z) : ∀ f fd, Fun Z.K "_law_words" "_law_words" s_law_words f fd → FnOk Z.P Z.w Z.K Z.mg Z.base (L2.CX Z.P Z.w) (1 + 1) f fd ["_law_cell", "_law_many"] (spOf Z.T Z.K Z.mg (runDef 2 8 (b_law_words))) := fun f fd F =>
  def_ok F sc_law_words fun X E W A hT => fss_cons (fs_set A (i := 2) rfl rfl fe_str.toP) (fss_cons (fs_set A (i := 3) rfl rfl ((fe_add fe_int (fe_mod (fe_call A hT ((k_law_mix T).mono (by decide)) (fl_cons ((fe_var A (i := 0) rfl rfl).toP) (fl_cons fe_int.toP fl_nil))) fe_int)).toP)) (fss_cons (fs_set A (i := 4) rfl rfl ((fe_join fe_str (lc_rule A (own := [("_law_k", 5)]) (fi_range1 A (A.no T.m_range) (fl_cons ((fe_var A (i := 3) rfl rfl).toP) fl_nil)) (by decide +kernel) (by decide) (fun _ A' => fg_name A' (i := 5) rfl rfl) (fun _ A' => fts_nil) (fun _ A' => (fe_ix A' (fe_var A' (i := 2) rfl rfl) (fe_mod (fe_call A' hT ((k_law_mix T).mono (by decide)) (fl_cons ((fe_var A' (i := 0) rfl rfl).toP) (fl_cons ((fe_add fe_int (fe_var A' (i := 5) rfl rfl)).toP) fl_nil))) fe_int)).toP))).toP)) (fss_cons (fs_set A (i := 6) rfl rfl ((fe_mod (fe_call A hT ((k_law_mix T).mono (by decide)) (fl_cons ((fe_var A (i := 0) rfl rfl).toP) (fl_cons fe_int.toP fl_nil))) (fe_var A (i := 3) rfl rfl)).toP)) (fss_cons (fs_set A (i := 7) rfl rfl ((fe_mod (fe_call A hT ((k_law_mix T).mono (by decide)) (fl_cons ((fe_var A (i := 0) rfl rfl).toP) (fl_cons fe_int.toP fl_nil))) fe_int).toP)) (fss_one (fs_ret (lc_rule A (own := [("_law_k", 5)]) (fi_range1 A (A.no T.m_range) (fl_cons ((fe_var A (i := 1) rfl rfl).toP) fl_nil)) (by decide +kernel) (by decide) (fun _ A' => fg_name A' (i := 5) rfl rfl) (fun _ A' => fts_nil) (fun _ A' => (fe_add (fe_add (fe_slice (fe_var A' (i := 4) rfl rfl) fo_none (fo_some (fe_var A' (i := 6) rfl rfl))) (fe_ix A' (fe_var A' (i := 2) rfl rfl) (fe_mod (fe_add (fe_var A' (i := 7) rfl rfl) (fe_mul fe_int (fe_var A' (i := 5) rfl rfl))) fe_int))) (fe_slice (fe_var A' (i := 4) rfl rfl) (fo_some (fe_add (fe_var A' (i := 6) rfl rfl) fe_int)) fo_none)).toP))))))))
theorem k_law_words {Z : Wd} (T : Tops Z) : Known Z 2 "_law_words" [] f_law_words := T.t_law_words.known (d_law_words T)
abbrev n_law_cell_at : List Str := ["_law_script", "_law_k"]
theorem sc_law_cell_at : FnScope n_law_cell_at ["_law_script", "_law_k"] (defScope s_law_cell_at) := ⟨rfl, rfl, rfl, by decide +kernel, rfl, by decide +kernel, by decide +kernel⟩
set_option maxHeartbeats 4000000 in
theorem d_law_cell_at {Z : Wd} (T : Tops Z) : ∀ f fd, Fun Z.K "_law_cell_at" "_law_cell_at" s_law_cell_at f fd → FnOk Z.P Z.w Z.K Z.mg Z.base (L2.CX Z.P Z.w) (0 + 1) f fd ["_law_script", "_law_k"] (spOf Z.T Z.K Z.mg (runDef 2 2 (b_law_cell_at))) := fun f fd F =>
  def_ok F sc_law_cell_at fun X E W A hT => fss_cons (fs_if (ft_lt (fe_var A (i := 1) rfl rfl) (fe_len A T.m_len (fe_var A (i := 0) rfl rfl))) (fss_one (fs_ret (fe_ix A (fe_var A (i := 0) rfl rfl) (fe_var A (i := 1) rfl rfl)))) fss_nil) (fss_one (fs_ret fe_int))
theorem k_law_cell_at {Z : Wd} (T : Tops Z) : Known Z 1 "_law_cell_at" [] f_law_cell_at := T.t_law_cell_at.known (d_law_cell_at T)
abbrev n_law_leaf : List Str := ["_law_number", "_law_scope", "_law_words_here"]
theorem sc_law_leaf : FnScope n_law_leaf ["_law_number", "_law_scope", "_law_words_here"] (defScope s_law_leaf) := ⟨rfl, rfl, rfl, by decide +kernel, rfl, by decide +kernel, by decide +kernel⟩
set_option maxHeartbeats 4000000 in
theorem d_law_leaf {Z : Wd} (T : Tops Z) : ∀ f fd, Fun Z.K "_law_leaf" "_law_leaf" s_law_leaf f fd → FnOk Z.P Z.w Z.K Z.mg Z.base (L2.CX Z.P Z.w) (0 + 1) f fd ["_law_number", "_law_scope", "_law_words_here"] (spOf Z.T Z.K Z.mg (runDef 3 3 (b_law_leaf))) := fun f fd F =>
  def_ok F sc_law_leaf fun X E W A hT => fss_cons (fs_if ((fw_and (ft_gt (fe_var A (i := 1) rfl rfl) fe_int) (fw_and1 (ft_lt (fe_mod (fe_var A (i := 0) rfl rfl) fe_int) fe_int))).ft) (fss_one (fs_ret (fe_tup (fl_cons fe_str.toP (fl_cons ((fe_mod (fe_div (fe_var A (i := 0) rfl rfl) fe_int) (fe_var A (i := 1) rfl rfl)).toP) fl_nil))))) fss_nil) (fss_one (fs_ret (fe_tup (fl_cons fe_str.toP (fl_cons ((fe_ix A (fe_var A (i := 2) rfl rfl) (fe_mod (fe_div (fe_var A (i := 0) rfl rfl) fe_int) fe_int)).toP) (fl_cons ((fe_tup fl_nil).toP) fl_nil))))))
theorem k_law_leaf {Z : Wd} (T : Tops Z) : Known Z 1 "_law_leaf" [] f_law_leaf := T.t_law_leaf.known (d_law_leaf T)
abbrev n_law_term : List Str := ["_law_cells", "_law_scope", "_law_words_here", "_law_holes_here", "_law_deep", "_law_number", "_law_left", "_law_way", "_law_word", "_law_many", "_law_some", "_law_k", "_law_one", "_law_parts"]
theorem sc_law_term : FnScope n_law_term ["_law_cells", "_law_scope", "_law_words_here", "_law_holes_here", "_law_deep"] (defScope s_law_term) := ⟨rfl, rfl, rfl, by decide +kernel, rfl, by decide +kernel, by decide +kernel⟩
set_option maxHeartbeats 4000000 in
theorem d_law_term {Z : Wd} {k : Nat} (T : Tops Z) {r_law_term : Fn} (K_law_term : Known Z k "_law_term" [] r_law_term) (hk : 2 ≤ k) : ∀ f fd, Fun Z.K "_law_term" "_law_term" s_law_term f fd → FnOk Z.P Z.w Z.K Z.mg Z.base (L2.CX Z.P Z.w) (k + 1) f fd ["_law_cells", "_law_scope", "_law_words_here", "_law_holes_here", "_law_deep"] (spOf Z.T Z.K Z.mg (runDef 5 14 (b_law_term r_law_term))) := fun f fd F =>
  def_ok F sc_law_term fun X E W A hT => fss_cons (fs_if ((fw_or (ft_eq A (fe_var A (i := 0) rfl rfl) (fe_lst fl_nil)) (fw_or1 (ft_eq A (fe_var A (i := 4) rfl rfl) fe_int))).ft) (fss_one (fs_ret (fe_tup (fl_cons ((fe_call A hT ((k_law_leaf T).mono (Nat.le_trans (by decide) hk)) (fl_cons ((fe_call A hT ((k_law_free T).mono (Nat.le_trans (by decide) hk)) (fl_cons ((fe_sum A T.m_sum (fe_slice (fe_var A (i := 0) rfl rfl) fo_none (fo_some fe_int))).toP) (fl_cons fe_int.toP fl_nil))).toP) (fl_cons ((fe_var A (i := 1) rfl rfl).toP) (fl_cons ((fe_var A (i := 2) rfl rfl).toP) fl_nil)))).toP) (fl_cons ((fe_slice (fe_var A (i := 0) rfl rfl) (fo_some fe_int) fo_none).toP) fl_nil))))) fss_nil) (fss_cons (fs_set A (i := 5) rfl rfl ((fe_call A hT ((k_law_free T).mono (Nat.le_trans (by decide) hk)) (fl_cons ((fe_ix A (fe_var A (i := 0) rfl rfl) fe_int).toP) (fl_cons fe_int.toP fl_nil))).toP)) (fss_cons (fs_set A (i := 6) rfl rfl ((fe_slice (fe_var A (i := 0) rfl rfl) (fo_some fe_int) fo_none).toP)) (fss_cons (fs_set A (i := 7) rfl rfl ((fe_mod (fe_var A (i := 5) rfl rfl) fe_int).toP)) (fss_cons (fs_set A (i := 5) rfl rfl ((fe_div (fe_var A (i := 5) rfl rfl) fe_int).toP)) (fss_cons (fs_if (ft_lt (fe_var A (i := 7) rfl rfl) fe_int) (fss_one (fs_ret (fe_tup (fl_cons ((fe_call A hT ((k_law_leaf T).mono (Nat.le_trans (by decide) hk)) (fl_cons ((fe_var A (i := 5) rfl rfl).toP) (fl_cons ((fe_var A (i := 1) rfl rfl).toP) (fl_cons ((fe_var A (i := 2) rfl rfl).toP) fl_nil)))).toP) (fl_cons ((fe_var A (i := 6) rfl rfl).toP) fl_nil))))) fss_nil) (fss_cons (fs_if ((fw_and (ft_lt (fe_var A (i := 7) rfl rfl) fe_int) (fw_and1 (ft_ne A (fe_var A (i := 3) rfl rfl) (fe_lst fl_nil)))).ft) (fss_cons (fs_pat (fg_tup A (fgs_cons (fg_name A (i := 8) rfl rfl) (fgs_cons (fg_name A (i := 9) rfl rfl) fgs_nil))) ((fe_ix A (fe_var A (i := 3) rfl rfl) (fe_mod (fe_var A (i := 5) rfl rfl) (fe_len A T.m_len (fe_var A (i := 3) rfl rfl)))).toP)) (fss_cons (fs_own A (i := 10) rfl rfl (fe_lst fl_nil)) (fss_cons (fs_for A [11, 12] (fi_range1 A (A.no T.m_range) (fl_cons ((fe_var A (i := 9) rfl rfl).toP) fl_nil)) srcR1_ns (fg_name A (i := 11) rfl rfl) (fss_cons (fs_pat (fg_tup A (fgs_cons (fg_name A (i := 12) rfl rfl) (fgs_cons (fg_name A (i := 6) rfl rfl) fgs_nil))) ((fe_call A hT K_law_term (fl_cons ((fe_var A (i := 6) rfl rfl).toP) (fl_cons ((fe_var A (i := 1) rfl rfl).toP) (fl_cons ((fe_var A (i := 2) rfl rfl).toP) (fl_cons ((fe_var A (i := 3) rfl rfl).toP) (fl_cons ((fe_sub (fe_var A (i := 4) rfl rfl) fe_int).toP) fl_nil)))))).toP)) (fss_one (fs_exp (fe_append (fe_var A (i := 10) rfl rfl) ((fe_var A (i := 12) rfl rfl).toP)))))) (fss_one (fs_ret (fe_tup (fl_cons ((fe_tup (fl_cons fe_str.toP (fl_cons ((fe_var A (i := 8) rfl rfl).toP) (fl_cons ((fe_tuple A T.m_tuple (fe_var A (i := 10) rfl rfl)).toP) fl_nil)))).toP) (fl_cons ((fe_var A (i := 6) rfl rfl).toP) fl_nil)))))))) fss_nil) (fss_cons (fs_own A (i := 13) rfl rfl (fe_lst fl_nil)) (fss_cons (fs_for A [9, 11, 12] (fi_range1 A (A.no T.m_range) (fl_cons ((fe_add fe_int (fe_mod (fe_var A (i := 5) rfl rfl) fe_int)).toP) fl_nil)) srcR1_ns (fg_name A (i := 11) rfl rfl) (fss_cons (fs_set A (i := 9) rfl rfl ((fe_ix A (fe_lst (fl_cons fe_int.toP (fl_cons fe_int.toP (fl_cons fe_int.toP (fl_cons fe_int.toP fl_nil))))) (fe_mod (fe_div (fe_var A (i := 5) rfl rfl) (fe_ix A (fe_lst (fl_cons fe_int.toP (fl_cons fe_int.toP (fl_cons fe_int.toP fl_nil)))) (fe_var A (i := 11) rfl rfl))) fe_int)).toP)) (fss_cons (fs_pat (fg_tup A (fgs_cons (fg_name A (i := 12) rfl rfl) (fgs_cons (fg_name A (i := 6) rfl rfl) fgs_nil))) ((fe_call A hT K_law_term (fl_cons ((fe_var A (i := 6) rfl rfl).toP) (fl_cons ((fe_add (fe_var A (i := 1) rfl rfl) (fe_var A (i := 9) rfl rfl)).toP) (fl_cons ((fe_var A (i := 2) rfl rfl).toP) (fl_cons ((fe_var A (i := 3) rfl rfl).toP) (fl_cons ((fe_sub (fe_var A (i := 4) rfl rfl) fe_int).toP) fl_nil)))))).toP)) (fss_one (fs_exp (fe_append (fe_var A (i := 13) rfl rfl) ((fe_tup (fl_cons ((fe_var A (i := 9) rfl rfl).toP) (fl_cons ((fe_var A (i := 12) rfl rfl).toP) fl_nil))).toP))))))) (fss_one (fs_ret (fe_tup (fl_cons ((fe_tup (fl_cons fe_str.toP (fl_cons ((fe_ix A (fe_var A (i := 2) rfl rfl) (fe_add fe_int (fe_mod (fe_mod (fe_div (fe_var A (i := 5) rfl rfl) fe_int) fe_int) fe_int))).toP) (fl_cons ((fe_tuple A T.m_tuple (fe_var A (i := 13) rfl rfl)).toP) fl_nil)))).toP) (fl_cons ((fe_var A (i := 6) rfl rfl).toP) fl_nil)))))))))))))
theorem ks_law_term {Z : Wd} (T : Tops Z) : ∀ n : Nat, Known Z (2 + n) "_law_term" [] (f_law_term n)
  | 0 => T.t_law_term.none
  | n + 1 => by
    have ih := ks_law_term T n
    exact T.t_law_term.known (d_law_term T ih (Nat.le_add_right _ n))
theorem k_law_term {Z : Wd} (T : Tops Z) : Known Z 8 "_law_term" [] (f_law_term 6) := (ks_law_term T 6)
abbrev n_law_straight : List Str := ["_law_cells", "_law_scope", "_law_words_here", "_law_holes_here", "_law_deep", "_law_number", "_law_left", "_law_way", "_law_some", "_law_one", "_law_word", "_law_many", "_law_names", "_law_told", "_law_k", "_law_spot", "_law_parts"]
theorem sc_law_straight : FnScope n_law_straight ["_law_cells", "_law_scope", "_law_words_here", "_law_holes_here", "_law_deep"] (defScope s_law_straight) := ⟨rfl, rfl, rfl, by decide +kernel, rfl, by decide +kernel, by decide +kernel⟩
set_option maxHeartbeats 4000000 in
theorem d_law_straight {Z : Wd} {k : Nat} (T : Tops Z) {r_law_straight : Fn} (K_law_straight : Known Z k "_law_straight" [] r_law_straight) (hk : 2 ≤ k) : ∀ f fd, Fun Z.K "_law_straight" "_law_straight" s_law_straight f fd → FnOk Z.P Z.w Z.K Z.mg Z.base (L2.CX Z.P Z.w) (k + 1) f fd ["_law_cells", "_law_scope", "_law_words_here", "_law_holes_here", "_law_deep"] (spOf Z.T Z.K Z.mg (runDef 5 17 (b_law_straight r_law_straight))) := fun f fd F =>
  def_ok F sc_law_straight fun X E W A hT => fss_cons (fs_if ((fw_or (ft_eq A (fe_var A (i := 0) rfl rfl) (fe_lst fl_nil)) (fw_or1 (ft_eq A (fe_var A (i := 4) rfl rfl) fe_int))).ft) (fss_one (fs_ret (fe_tup (fl_cons ((fe_call A hT ((k_law_leaf T).mono (Nat.le_trans (by decide) hk)) (fl_cons ((fe_call A hT ((k_law_free T).mono (Nat.le_trans (by decide) hk)) (fl_cons ((fe_sum A T.m_sum (fe_slice (fe_var A (i := 0) rfl rfl) fo_none (fo_some fe_int))).toP) (fl_cons fe_int.toP fl_nil))).toP) (fl_cons ((fe_var A (i := 1) rfl rfl).toP) (fl_cons ((fe_var A (i := 2) rfl rfl).toP) fl_nil)))).toP) (fl_cons ((fe_slice (fe_var A (i := 0) rfl rfl) (fo_some fe_int) fo_none).toP) fl_nil))))) fss_nil) (fss_cons (fs_set A (i := 5) rfl rfl ((fe_call A hT ((k_law_free T).mono (Nat.le_trans (by decide) hk)) (fl_cons ((fe_ix A (fe_var A (i := 0) rfl rfl) fe_int).toP) (fl_cons fe_int.toP fl_nil))).toP)) (fss_cons (fs_set A (i := 6) rfl rfl ((fe_slice (fe_var A (i := 0) rfl rfl) (fo_some fe_int) fo_none).toP)) (fss_cons (fs_set A (i := 7) rfl rfl ((fe_mod (fe_var A (i := 5) rfl rfl) fe_int).toP)) (fss_cons (fs_set A (i := 5) rfl rfl ((fe_div (fe_var A (i := 5) rfl rfl) fe_int).toP)) (fss_cons (fs_lcSet A (i := 8) [("_law_one", 9)] rfl rfl rfl (by decide +kernel) rfl (fi_of (fe_var A (i := 3) rfl rfl)) (by decide +kernel) (by decide) (fun _ A' => fg_name A' (i := 9) rfl rfl) (fun _ A' => fts_one (ft_le (fe_ix A' (fe_var A' (i := 9) rfl rfl) fe_int) (fe_var A' (i := 1) rfl rfl))) (fun _ A' => (fe_var A' (i := 9) rfl rfl).toP)) (fss_cons (fs_if ((fw_and (ft_lt (fe_var A (i := 7) rfl rfl) fe_int) (fw_and1 (ft_eq A (fe_var A (i := 8) rfl rfl) (fe_lst fl_nil)))).ft) (fss_one (fs_ret (fe_tup (fl_cons ((fe_call A hT ((k_law_leaf T).mono (Nat.le_trans (by decide) hk)) (fl_cons ((fe_var A (i := 5) rfl rfl).toP) (fl_cons ((fe_var A (i := 1) rfl rfl).toP) (fl_cons ((fe_var A (i := 2) rfl rfl).toP) fl_nil)))).toP) (fl_cons ((fe_var A (i := 6) rfl rfl).toP) fl_nil))))) fss_nil) (fss_cons (fs_if ((fw_and (ft_lt (fe_var A (i := 7) rfl rfl) fe_int) (fw_and1 (ft_ne A (fe_var A (i := 8) rfl rfl) (fe_lst fl_nil)))).ft) (fss_cons (fs_pat (fg_tup A (fgs_cons (fg_name A (i := 10) rfl rfl) (fgs_cons (fg_name A (i := 11) rfl rfl) fgs_nil))) ((fe_ix A (fe_var A (i := 8) rfl rfl) (fe_mod (fe_var A (i := 5) rfl rfl) (fe_len A T.m_len (fe_var A (i := 8) rfl rfl)))).toP)) (fss_cons (fs_own A (i := 12) rfl rfl (fe_listRg A T.m_list T.m_range (fe_var A (i := 1) rfl rfl))) (fss_cons (fs_own A (i := 13) rfl rfl (fe_lst fl_nil)) (fss_cons (fs_for A [14, 15] (fi_range1 A (A.no T.m_range) (fl_cons ((fe_var A (i := 11) rfl rfl).toP) fl_nil)) srcR1_ns (fg_name A (i := 14) rfl rfl) (fss_cons (fs_pat (fg_tup A (fgs_cons (fg_name A (i := 5) rfl rfl) (fgs_cons (fg_name A (i := 15) rfl rfl) fgs_nil))) ((fe_divmod A T.m_divmod (fe_add (fe_div (fe_var A (i := 5) rfl rfl) fe_int) (fe_mul fe_int (fe_var A (i := 14) rfl rfl))) (fe_len A T.m_len (fe_var A (i := 12) rfl rfl))).toP)) (fss_one (fs_exp (fe_append (fe_var A (i := 13) rfl rfl) ((fe_tup (fl_cons fe_str.toP (fl_cons ((fe_popAt (fe_var A (i := 12) rfl rfl) (fe_var A (i := 15) rfl rfl)).toP) fl_nil))).toP)))))) (fss_one (fs_ret (fe_tup (fl_cons ((fe_tup (fl_cons fe_str.toP (fl_cons ((fe_var A (i := 10) rfl rfl).toP) (fl_cons ((fe_tuple A T.m_tuple (fe_var A (i := 13) rfl rfl)).toP) fl_nil)))).toP) (fl_cons ((fe_var A (i := 6) rfl rfl).toP) fl_nil))))))))) fss_nil) (fss_cons (fs_own A (i := 16) rfl rfl (fe_lst fl_nil)) (fss_cons (fs_for A [9, 11, 14] (fi_range1 A (A.no T.m_range) (fl_cons ((fe_add fe_int (fe_mod (fe_var A (i := 5) rfl rfl) fe_int)).toP) fl_nil)) srcR1_ns (fg_name A (i := 14) rfl rfl) (fss_cons (fs_set A (i := 11) rfl rfl ((fe_ix A (fe_lst (fl_cons fe_int.toP (fl_cons fe_int.toP (fl_cons fe_int.toP (fl_cons fe_int.toP fl_nil))))) (fe_mod (fe_div (fe_var A (i := 5) rfl rfl) (fe_ix A (fe_lst (fl_cons fe_int.toP (fl_cons fe_int.toP (fl_cons fe_int.toP fl_nil)))) (fe_var A (i := 14) rfl rfl))) fe_int)).toP)) (fss_cons (fs_pat (fg_tup A (fgs_cons (fg_name A (i := 9) rfl rfl) (fgs_cons (fg_name A (i := 6) rfl rfl) fgs_nil))) ((fe_call A hT K_law_straight (fl_cons ((fe_var A (i := 6) rfl rfl).toP) (fl_cons ((fe_add (fe_var A (i := 1) rfl rfl) (fe_var A (i := 11) rfl rfl)).toP) (fl_cons ((fe_var A (i := 2) rfl rfl).toP) (fl_cons ((fe_var A (i := 3) rfl rfl).toP) (fl_cons ((fe_sub (fe_var A (i := 4) rfl rfl) fe_int).toP) fl_nil)))))).toP)) (fss_one (fs_exp (fe_append (fe_var A (i := 16) rfl rfl) ((fe_tup (fl_cons ((fe_var A (i := 11) rfl rfl).toP) (fl_cons ((fe_var A (i := 9) rfl rfl).toP) fl_nil))).toP))))))) (fss_one (fs_ret (fe_tup (fl_cons ((fe_tup (fl_cons fe_str.toP (fl_cons ((fe_ix A (fe_var A (i := 2) rfl rfl) (fe_add fe_int (fe_mod (fe_mod (fe_div (fe_var A (i := 5) rfl rfl) fe_int) fe_int) fe_int))).toP) (fl_cons ((fe_tuple A T.m_tuple (fe_var A (i := 16) rfl rfl)).toP) fl_nil)))).toP) (fl_cons ((fe_var A (i := 6) rfl rfl).toP) fl_nil))))))))))))))
theorem ks_law_straight {Z : Wd} (T : Tops Z) : ∀ n : Nat, Known Z (2 + n) "_law_straight" [] (f_law_straight n)
  | 0 => T.t_law_straight.none
  | n + 1 => by
    have ih := ks_law_straight T n
    exact T.t_law_straight.known (d_law_straight T ih (Nat.le_add_right _ n))
theorem k_law_straight {Z : Wd} (T : Tops Z) : Known Z 8 "_law_straight" [] (f_law_straight 6) := (ks_law_straight T 6)
abbrev n_law_holes : List Str := ["_law_cell", "_law_words_here", "_law_spot", "_law_k"]
theorem sc_law_holes : FnScope n_law_holes ["_law_cell", "_law_words_here"] (defScope s_law_holes) := ⟨rfl, rfl, rfl, by decide +kernel, rfl, by decide +kernel, by decide +kernel⟩
set_option maxHeartbeats 4000000 in
theorem d_law_holes {Z : Wd} (T : Tops Z) : ∀ f fd, Fun Z.K "_law_holes" "_law_holes" s_law_holes f fd → FnOk Z.P Z.w Z.K Z.mg Z.base (L2.CX Z.P Z.w) (1 + 1) f fd ["_law_cell", "_law_words_here"] (spOf Z.T Z.K Z.mg (runDef 2 4 (b_law_holes))) := fun f fd F =>
  def_ok F sc_law_holes fun X E W A hT => fss_cons (fs_set A (i := 2) rfl rfl ((fe_ix A (fe_lst (fl_cons fe_int.toP (fl_cons fe_int.toP (fl_cons fe_int.toP (fl_cons fe_int.toP fl_nil))))) (fe_mod (fe_call A hT ((k_law_mix T).mono (by decide)) (fl_cons ((fe_var A (i := 0) rfl rfl).toP) (fl_cons fe_int.toP fl_nil))) fe_int)).toP)) (fss_one (fs_ret (lc_rule A (own := [("_law_k", 3)]) (fi_range1 A (A.no T.m_range) (fl_cons fe_int.toP fl_nil)) (by decide +kernel) (by decide) (fun _ A' => fg_name A' (i := 3) rfl rfl) (fun _ A' => fts_nil) (fun _ A' => (fe_tup (fl_cons ((fe_ix A' (fe_var A' (i := 1) rfl rfl) (fe_add (fe_var A' (i := 2) rfl rfl) (fe_var A' (i := 3) rfl rfl))).toP) (fl_cons ((fe_var A' (i := 3) rfl rfl).toP) fl_nil))).toP))))
theorem k_law_holes {Z : Wd} (T : Tops Z) : Known Z 2 "_law_holes" [] f_law_holes := T.t_law_holes.known (d_law_holes T)
abbrev n_law_held : List Str := ["_law_term_here", "_law_known", "_law_one", "_law_inner"]
theorem sc_law_held : FnScope n_law_held ["_law_term_here", "_law_known"] (defScope s_law_held) := ⟨rfl, rfl, rfl, by decide +kernel, rfl, by decide +kernel, by decide +kernel⟩
set_option maxHeartbeats 4000000 in
theorem d_law_held {Z : Wd} {k : Nat} (T : Tops Z) {r_law_held : Fn} (K_law_held : Known Z k "_law_held" [] r_law_held) (hk : 0 ≤ k) : ∀ f fd, Fun Z.K "_law_held" "_law_held" s_law_held f fd → FnOk Z.P Z.w Z.K Z.mg Z.base (L2.CX Z.P Z.w) (k + 1) f fd ["_law_term_here", "_law_known"] (spOf Z.T Z.K Z.mg (runDef 2 4 (b_law_held r_law_held))) := fun f fd F =>
  def_ok F sc_law_held fun X E W A hT => fss_cons (fs_if (ft_eq A (fe_ix A (fe_var A (i := 0) rfl rfl) fe_int) fe_str) (fss_one (fs_sub A ((fe_len A T.m_len (fe_ix A (fe_var A (i := 0) rfl rfl) fe_int)).toP) (fe_var A (i := 1) rfl rfl) (fe_ix A (fe_var A (i := 0) rfl rfl) fe_int) (fun hz => pg_sub (fe_var A (i := 1) rfl rfl).pe (fe_ix A (fe_var A (i := 0) rfl rfl) fe_int).pe hz))) fss_nil) (fss_cons (fs_for A [2, 3] (fi_of ((fe_slice (fe_var A (i := 0) rfl rfl) (fo_some fe_int) fo_none).toP).fe) srcP_ns (fg_name A (i := 2) rfl rfl) (fss_one (fs_for A [3] (fi_of ((fe_var A (i := 2) rfl rfl).toP).fe) srcP_ns (fg_name A (i := 3) rfl rfl) (fss_one (fs_exp (fe_call A hT K_law_held (fl_cons ((fe_ix A (fe_lst (fl_cons ((fe_var A (i := 3) rfl rfl).toP) (fl_cons ((fe_ix A (fe_var A (i := 3) rfl rfl) fe_int).toP) fl_nil))) (fe_intOf A T.m_int (fe_eq A (fe_ix A (fe_var A (i := 0) rfl rfl) fe_int) fe_str))).toP) (fl_cons ((fe_var A (i := 1) rfl rfl).toP) fl_nil)))))))) (fss_one (fs_ret (fe_var A (i := 1) rfl rfl))))
theorem ks_law_held {Z : Wd} (T : Tops Z) : ∀ n : Nat, Known Z (0 + n) "_law_held" [] (f_law_held n)
  | 0 => T.t_law_held.none
  | n + 1 => by
    have ih := ks_law_held T n
    exact T.t_law_held.known (d_law_held T ih (Nat.le_add_right _ n))
theorem k_law_held {Z : Wd} (T : Tops Z) : Known Z 12 "_law_held" [] (f_law_held 12) := (ks_law_held T 12)
abbrev n_law_rule : List Str := ["_law_cells", "_law_words_here", "_law_holes_here", "_law_left", "_law_more", "_law_right", "_law_rest"]
theorem sc_law_rule : FnScope n_law_rule ["_law_cells", "_law_words_here", "_law_holes_here"] (defScope s_law_rule) := ⟨rfl, rfl, rfl, by decide +kernel, rfl, by decide +kernel, by decide +kernel⟩
set_option maxHeartbeats 4000000 in
theorem d_law_rule {Z : Wd} (T : Tops Z) : ∀ f fd, Fun Z.K "_law_rule" "_law_rule" s_law_rule f fd → FnOk Z.P Z.w Z.K Z.mg Z.base (L2.CX Z.P Z.w) (12 + 1) f fd ["_law_cells", "_law_words_here", "_law_holes_here"] (spOf Z.T Z.K Z.mg (runDef 3 7 (b_law_rule))) := fun f fd F =>
  def_ok F sc_law_rule fun X E W A hT => fss_cons (fs_pat (fg_tup A (fgs_cons (fg_name A (i := 3) rfl rfl) (fgs_cons (fg_name A (i := 4) rfl rfl) fgs_nil))) ((fe_call A hT ((k_law_straight T).mono (by decide)) (fl_cons ((fe_var A (i := 0) rfl rfl).toP) (fl_cons fe_int.toP (fl_cons ((fe_var A (i := 1) rfl rfl).toP) (fl_cons ((fe_var A (i := 2) rfl rfl).toP) (fl_cons fe_int.toP fl_nil)))))).toP)) (fss_cons (fs_if (ft_ne A (fe_ix A (fe_var A (i := 3) rfl rfl) fe_int) fe_str) (fss_one (fs_set A (i := 3) rfl rfl ((fe_tup (fl_cons fe_str.toP (fl_cons ((fe_ix A (fe_var A (i := 1) rfl rfl) fe_int).toP) (fl_cons ((fe_tup (fl_cons ((fe_tup (fl_cons fe_int.toP (fl_cons ((fe_var A (i := 3) rfl rfl).toP) fl_nil))).toP) fl_nil)).toP) fl_nil)))).toP))) fss_nil) (fss_cons (fs_pat (fg_tup A (fgs_cons (fg_name A (i := 5) rfl rfl) (fgs_cons (fg_name A (i := 6) rfl rfl) fgs_nil))) ((fe_call A hT ((k_law_term T).mono (by decide)) (fl_cons ((fe_var A (i := 4) rfl rfl).toP) (fl_cons fe_int.toP (fl_cons ((fe_var A (i := 1) rfl rfl).toP) (fl_cons ((fe_sortIt A T.m_sorted (fe_call A hT ((k_law_held T).mono (by decide)) (fl_cons ((fe_var A (i := 3) rfl rfl).toP) (fl_cons fe_dct0.toC fl_nil)))).toP) (fl_cons fe_int.toP fl_nil)))))).toP)) (fss_one (fs_ret (fe_tup (fl_cons ((fe_var A (i := 3) rfl rfl).toP) (fl_cons ((fe_var A (i := 5) rfl rfl).toP) fl_nil)))))))
theorem k_law_rule {Z : Wd} (T : Tops Z) : Known Z 13 "_law_rule" [] f_law_rule := T.t_law_rule.known (d_law_rule T)
abbrev n_law_beside : List Str := ["_law_side", "_law_term_here"]
theorem sc_law_beside : FnScope n_law_beside ["_law_side", "_law_term_here"] (defScope s_law_beside) := ⟨rfl, rfl, rfl, by decide +kernel, rfl, by decide +kernel, by decide +kernel⟩
set_option maxHeartbeats 4000000 in
theorem d_law_beside {Z : Wd} (T : Tops Z) : ∀ f fd, Fun Z.K "_law_beside" "_law_beside" s_law_beside f fd → FnOk Z.P Z.w Z.K Z.mg Z.base (L2.CX Z.P Z.w) (0 + 1) f fd ["_law_side", "_law_term_here"] (spOf Z.T Z.K Z.mg (runDef 2 2 (b_law_beside))) := fun f fd F =>
  def_ok F sc_law_beside fun X E W A hT => fss_one (fs_ret (fe_tup (fl_cons fe_str.toP (fl_cons ((fe_ix A (fe_var A (i := 0) rfl rfl) fe_int).toP) (fl_cons ((fe_add (fe_ix A (fe_var A (i := 0) rfl rfl) fe_int) (fe_tup (fl_cons ((fe_tup (fl_cons fe_int.toP (fl_cons ((fe_var A (i := 1) rfl rfl).toP) fl_nil))).toP) fl_nil))).toP) fl_nil)))))
theorem k_law_beside {Z : Wd} (T : Tops Z) : Known Z 1 "_law_beside" [] f_law_beside := T.t_law_beside.known (d_law_beside T)
abbrev n_law_spoiled : List Str := ["_law_rule_here", "_law_number", "_law_words_here", "_law_left", "_law_right", "_law_own", "_law_plain", "_law_other", "_law_many", "_law_wrong", "_law_twice", "_law_straight_here", "_law_some", "_law_told", "_law_one", "_law_word"]
theorem sc_law_spoiled : FnScope n_law_spoiled ["_law_rule_here", "_law_number", "_law_words_here"] (defScope s_law_spoiled) := ⟨rfl, rfl, rfl, by decide +kernel, rfl, by decide +kernel, by decide +kernel⟩
set_option maxHeartbeats 4000000 in
theorem d_law_spoiled {Z : Wd} (T : Tops Z) : ∀ f fd, Fun Z.K "_law_spoiled" "_law_spoiled" s_law_spoiled f fd → FnOk Z.P Z.w Z.K Z.mg Z.base (L2.CX Z.P Z.w) (12 + 1) f fd ["_law_rule_here", "_law_number", "_law_words_here"] (spOf Z.T Z.K Z.mg (runDef 3 16 (b_law_spoiled))) := fun f fd F =>
  def_ok F sc_law_spoiled fun X E W A hT => fss_cons (fs_pat (fg_tup A (fgs_cons (fg_name A (i := 3) rfl rfl) (fgs_cons (fg_name A (i := 4) rfl rfl) fgs_nil))) ((fe_var A (i := 0) rfl rfl).toP)) (fss_cons (fs_set A (i := 5) rfl rfl ((fe_sortIt A T.m_sorted (fe_call A hT ((k_law_held T).mono (by decide)) (fl_cons ((fe_var A (i := 3) rfl rfl).toP) (fl_cons fe_dct0.toC fl_nil)))).toP)) (fss_cons (fs_set A (i := 6) rfl rfl ((fe_tup (fl_cons fe_str.toP (fl_cons ((fe_ix A (fe_var A (i := 2) rfl rfl) fe_int).toP) (fl_cons ((fe_tup fl_nil).toP) fl_nil)))).toP)) (fss_cons (fs_set A (i := 7) rfl rfl ((fe_ix A (fe_var A (i := 2) rfl rfl) fe_int).toP)) (fss_cons (fs_if (ft_ne A (fe_var A (i := 5) rfl rfl) (fe_lst fl_nil)) (fss_cons (fs_pat (fg_tup A (fgs_cons (fg_name A (i := 7) rfl rfl) (fgs_cons (fg_name A (i := 8) rfl rfl) fgs_nil))) ((fe_ix A (fe_var A (i := 5) rfl rfl) (fe_mod (fe_div (fe_var A (i := 1) rfl rfl) fe_int) (fe_len A T.m_len (fe_var A (i := 5) rfl rfl)))).toP)) (fss_one (fs_set A (i := 9) rfl rfl ((fe_tup (fl_cons fe_str.toP (fl_cons ((fe_var A (i := 7) rfl rfl).toP) (fl_cons ((fe_tupRep (fe_tup (fl_cons ((fe_var A (i := 6) rfl rfl).toP) fl_nil)) (fe_add (fe_var A (i := 8) rfl rfl) fe_int)).toP) fl_nil)))).toP)))) (fss_one (fs_set A (i := 9) rfl rfl ((fe_tup (fl_cons fe_str.toP (fl_cons ((fe_var A (i := 7) rfl rfl).toP) (fl_cons ((fe_tup fl_nil).toP) fl_nil)))).toP)))) (fss_cons (fs_set A (i := 10) rfl rfl ((fe_tup (fl_cons fe_str.toP (fl_cons ((fe_ix A (fe_var A (i := 2) rfl rfl) fe_int).toP) (fl_cons ((fe_tup (fl_cons ((fe_tup (fl_cons fe_str.toP (fl_cons fe_int.toP fl_nil))).toP) (fl_cons ((fe_tup (fl_cons fe_str.toP (fl_cons fe_int.toP fl_nil))).toP) fl_nil))).toP) fl_nil)))).toP)) (fss_cons (fs_set A (i := 11) rfl rfl ((fe_lst (fl_cons ((fe_tup (fl_cons fe_str.toP (fl_cons ((fe_ix A (fe_var A (i := 2) rfl rfl) fe_int).toP) (fl_cons ((fe_tup fl_nil).toP) fl_nil)))).toP) (fl_cons ((fe_tup (fl_cons fe_str.toP (fl_cons ((fe_ix A (fe_var A (i := 2) rfl rfl) fe_int).toP) (fl_cons ((fe_tup (fl_cons ((fe_tup (fl_cons fe_int.toP (fl_cons ((fe_tup (fl_cons fe_str.toP (fl_cons ((fe_ix A (fe_var A (i := 2) rfl rfl) fe_int).toP) (fl_cons ((fe_tup (fl_cons ((fe_tup (fl_cons fe_str.toP (fl_cons fe_int.toP fl_nil))).toP) fl_nil)).toP) fl_nil)))).toP) fl_nil))).toP) fl_nil)).toP) fl_nil)))).toP) fl_nil))).toP)) (fss_cons (fs_own A (i := 12) rfl rfl (fe_lst (fl_cons ((fe_tup (fl_cons ((fe_tup (fl_cons fe_str.toP (fl_cons ((fe_ix A (fe_var A (i := 2) rfl rfl) fe_int).toP) (fl_cons ((fe_tup fl_nil).toP) fl_nil)))).toP) (fl_cons ((fe_var A (i := 4) rfl rfl).toP) fl_nil))).toP) (fl_cons ((fe_tup (fl_cons ((fe_tup (fl_cons fe_str.toP (fl_cons fe_int.toP fl_nil))).toP) (fl_cons ((fe_var A (i := 4) rfl rfl).toP) fl_nil))).toP) fl_nil)))) (fss_cons (fs_exp (fe_append (fe_var A (i := 12) rfl rfl) ((fe_tup (fl_cons ((fe_call A hT ((k_law_beside T).mono (by decide)) (fl_cons ((fe_var A (i := 3) rfl rfl).toP) (fl_cons ((fe_tup (fl_cons fe_str.toP (fl_cons ((fe_ix A (fe_var A (i := 2) rfl rfl) fe_int).toP) (fl_cons ((fe_tup (fl_cons ((fe_var A (i := 6) rfl rfl).toP) fl_nil)).toP) fl_nil)))).toP) fl_nil))).toP) (fl_cons ((fe_var A (i := 4) rfl rfl).toP) fl_nil))).toP))) (fss_cons (fs_exp (fe_append (fe_var A (i := 12) rfl rfl) ((fe_tup (fl_cons ((fe_call A hT ((k_law_beside T).mono (by decide)) (fl_cons ((fe_var A (i := 3) rfl rfl).toP) (fl_cons ((fe_tup (fl_cons fe_str.toP (fl_cons ((fe_ix A (fe_var A (i := 2) rfl rfl) fe_int).toP) (fl_cons ((fe_tup (fl_cons ((fe_tup (fl_cons fe_int.toP (fl_cons ((fe_var A (i := 10) rfl rfl).toP) fl_nil))).toP) fl_nil)).toP) fl_nil)))).toP) fl_nil))).toP) (fl_cons ((fe_var A (i := 4) rfl rfl).toP) fl_nil))).toP))) (fss_cons (fs_exp (fe_append (fe_var A (i := 12) rfl rfl) ((fe_tup (fl_cons ((fe_var A (i := 3) rfl rfl).toP) (fl_cons ((fe_tup (fl_cons fe_str.toP (fl_cons ((fe_ix A (fe_var A (i := 2) rfl rfl) fe_int).toP) (fl_cons ((fe_tup (fl_cons ((fe_tup (fl_cons fe_int.toP (fl_cons ((fe_var A (i := 4) rfl rfl).toP) fl_nil))).toP) (fl_cons ((fe_tup (fl_cons fe_int.toP (fl_cons ((fe_tup (fl_cons fe_str.toP (fl_cons ((fe_ix A (fe_var A (i := 2) rfl rfl) fe_int).toP) (fl_cons ((fe_tup fl_nil).toP) fl_nil)))).toP) fl_nil))).toP) fl_nil))).toP) fl_nil)))).toP) fl_nil))).toP))) (fss_cons (fs_exp (fe_append (fe_var A (i := 12) rfl rfl) ((fe_tup (fl_cons ((fe_var A (i := 3) rfl rfl).toP) (fl_cons ((fe_tup (fl_cons fe_str.toP (fl_cons ((fe_ix A (fe_var A (i := 2) rfl rfl) fe_int).toP) (fl_cons ((fe_tup (fl_cons ((fe_tup (fl_cons fe_int.toP (fl_cons ((fe_var A (i := 4) rfl rfl).toP) fl_nil))).toP) (fl_cons ((fe_tup (fl_cons fe_int.toP (fl_cons ((fe_var A (i := 9) rfl rfl).toP) fl_nil))).toP) fl_nil))).toP) fl_nil)))).toP) fl_nil))).toP))) (fss_cons (fs_exp (fe_append (fe_var A (i := 12) rfl rfl) ((fe_tup (fl_cons ((fe_call A hT ((k_law_beside T).mono (by decide)) (fl_cons ((fe_call A hT ((k_law_beside T).mono (by decide)) (fl_cons ((fe_var A (i := 3) rfl rfl).toP) (fl_cons ((fe_ix A (fe_var A (i := 11) rfl rfl) fe_int).toP) fl_nil))).toP) (fl_cons ((fe_ix A (fe_var A (i := 11) rfl rfl) fe_int).toP) fl_nil))).toP) (fl_cons ((fe_var A (i := 4) rfl rfl).toP) fl_nil))).toP))) (fss_cons (fs_exp (fe_append (fe_var A (i := 12) rfl rfl) ((fe_tup (fl_cons ((fe_tup (fl_cons fe_str.toP (fl_cons ((fe_ix A (fe_var A (i := 3) rfl rfl) fe_int).toP) (fl_cons ((fe_add (fe_ix A (fe_var A (i := 3) rfl rfl) fe_int) (fe_tup (fl_cons ((fe_tup (fl_cons fe_int.toP (fl_cons ((fe_tup (fl_cons fe_str.toP (fl_cons fe_int.toP fl_nil))).toP) fl_nil))).toP) fl_nil))).toP) fl_nil)))).toP) (fl_cons ((fe_var A (i := 4) rfl rfl).toP) fl_nil))).toP))) (fss_cons (fs_exp (fe_append (fe_var A (i := 12) rfl rfl) ((fe_tup (fl_cons ((fe_var A (i := 3) rfl rfl).toP) (fl_cons ((fe_tup (fl_cons fe_str.toP (fl_cons ((fe_ix A (fe_var A (i := 2) rfl rfl) fe_int).toP) (fl_cons ((fe_tup (fl_cons ((fe_tup (fl_cons fe_int.toP (fl_cons ((fe_var A (i := 4) rfl rfl).toP) fl_nil))).toP) (fl_cons ((fe_tup (fl_cons fe_int.toP (fl_cons ((fe_tup (fl_cons fe_str.toP (fl_cons fe_int.toP fl_nil))).toP) fl_nil))).toP) fl_nil))).toP) fl_nil)))).toP) fl_nil))).toP))) (fss_cons (fs_own A (i := 12) rfl rfl (fe_add (fe_var A (i := 12) rfl rfl) (fe_lst (fl_cons ((fe_lst (fl_cons ((fe_var A (i := 3) rfl rfl).toP) (fl_cons ((fe_var A (i := 4) rfl rfl).toP) fl_nil))).toP) (fl_cons ((fe_tup (fl_cons ((fe_var A (i := 3) rfl rfl).toP) (fl_cons ((fe_var A (i := 4) rfl rfl).toP) (fl_cons ((fe_var A (i := 4) rfl rfl).toP) fl_nil)))).toP) (fl_cons ((fe_tup (fl_cons ((fe_var A (i := 3) rfl rfl).toP) fl_nil)).toP) fl_nil)))))) (fss_cons (fs_exp (fe_append (fe_var A (i := 12) rfl rfl) ((fe_tup (fl_cons ((fe_tup (fl_cons fe_str.toP (fl_cons ((fe_ix A (fe_var A (i := 3) rfl rfl) fe_int).toP) (fl_cons ((fe_add (fe_ix A (fe_var A (i := 3) rfl rfl) fe_int) (fe_tup (fl_cons ((fe_tup (fl_cons fe_bl.toP (fl_cons ((fe_var A (i := 6) rfl rfl).toP) fl_nil))).toP) fl_nil))).toP) fl_nil)))).toP) (fl_cons ((fe_var A (i := 4) rfl rfl).toP) fl_nil))).toP))) (fss_cons (fs_exp (fe_append (fe_var A (i := 12) rfl rfl) ((fe_tup (fl_cons ((fe_call A hT ((k_law_beside T).mono (by decide)) (fl_cons ((fe_var A (i := 3) rfl rfl).toP) (fl_cons ((fe_tup (fl_cons fe_str.toP (fl_cons ((fe_ix A (fe_lst (fl_cons fe_str.toP (fl_cons fe_str.toP (fl_cons fe_str.toP (fl_cons fe_int.toP fl_nil))))) (fe_mod (fe_div (fe_var A (i := 1) rfl rfl) fe_int) fe_int)).toP) (fl_cons ((fe_tup fl_nil).toP) fl_nil)))).toP) fl_nil))).toP) (fl_cons ((fe_var A (i := 4) rfl rfl).toP) fl_nil))).toP))) (fss_cons (fs_exp (fe_append (fe_var A (i := 12) rfl rfl) ((fe_tup (fl_cons ((fe_tup (fl_cons fe_str.toP (fl_cons ((fe_ix A (fe_var A (i := 3) rfl rfl) fe_int).toP) (fl_cons ((fe_list A T.m_list (fe_ix A (fe_var A (i := 3) rfl rfl) fe_int)).toP) fl_nil)))).toP) (fl_cons ((fe_var A (i := 4) rfl rfl).toP) fl_nil))).toP))) (fss_cons (fs_exp (fe_append (fe_var A (i := 12) rfl rfl) ((fe_ix A (fe_lst (fl_cons fe_non.toP (fl_cons fe_int.toP (fl_cons fe_str.toP (fl_cons ((fe_tup fl_nil).toP) fl_nil))))) (fe_mod (fe_div (fe_var A (i := 1) rfl rfl) fe_int) fe_int)).toP))) (fss_cons (fs_lcSet A (i := 13) [("_law_one", 14)] rfl rfl rfl (by decide +kernel) rfl (fi_of (fe_var A (i := 5) rfl rfl)) (by decide +kernel) (by decide) (fun _ A' => fg_name A' (i := 14) rfl rfl) (fun _ A' => fts_one (ft_gt (fe_ix A' (fe_var A' (i := 14) rfl rfl) fe_int) fe_int)) (fun _ A' => (fe_var A' (i := 14) rfl rfl).toP)) (fss_cons (fs_if (ft_ne A (fe_var A (i := 13) rfl rfl) (fe_lst fl_nil)) (fss_cons (fs_pat (fg_tup A (fgs_cons (fg_name A (i := 15) rfl rfl) (fgs_cons (fg_name A (i := 8) rfl rfl) fgs_nil))) ((fe_ix A (fe_var A (i := 13) rfl rfl) (fe_mod (fe_div (fe_var A (i := 1) rfl rfl) fe_int) (fe_len A T.m_len (fe_var A (i := 13) rfl rfl)))).toP)) (fss_cons (fs_exp (fe_append (fe_var A (i := 12) rfl rfl) ((fe_tup (fl_cons ((fe_var A (i := 3) rfl rfl).toP) (fl_cons ((fe_tup (fl_cons fe_str.toP (fl_cons ((fe_var A (i := 15) rfl rfl).toP) (fl_cons ((fe_tupRep (fe_tup (fl_cons ((fe_tup (fl_cons fe_str.toP (fl_cons ((fe_ix A (fe_var A (i := 2) rfl rfl) fe_int).toP) (fl_cons ((fe_tup fl_nil).toP) fl_nil)))).toP) fl_nil)) (fe_var A (i := 8) rfl rfl)).toP) fl_nil)))).toP) fl_nil))).toP))) (fss_one (fs_exp (fe_append (fe_var A (i := 12) rfl rfl) ((fe_tup (fl_cons ((fe_var A (i := 3) rfl rfl).toP) (fl_cons ((fe_tup (fl_cons fe_str.toP (fl_cons ((fe_var A (i := 15) rfl rfl).toP) (fl_cons ((fe_tupRep (fe_tup (fl_cons ((fe_tup (fl_cons fe_str.toP (fl_cons ((fe_var A (i := 15) rfl rfl).toP) (fl_cons ((fe_tup fl_nil).toP) fl_nil)))).toP) fl_nil)) (fe_var A (i := 8) rfl rfl)).toP) fl_nil)))).toP) fl_nil))).toP)))))) fss_nil) (fss_one (fs_ret (fe_ix A (fe_var A (i := 12) rfl rfl) (fe_mod (fe_var A (i := 1) rfl rfl) (fe_len A T.m_len (fe_var A (i := 12) rfl rfl)))))))))))))))))))))))))))
theorem k_law_spoiled {Z : Wd} (T : Tops Z) : Known Z 13 "_law_spoiled" [] f_law_spoiled := T.t_law_spoiled.known (d_law_spoiled T)
abbrev n_law : List Str := ["_law_script", "_law_words_here", "_law_holes_here", "_law_rule_here", "_law_first", "_law_k"]
theorem sc_law : FnScope n_law ["_law_script"] (defScope s_law) := ⟨rfl, rfl, rfl, by decide +kernel, rfl, by decide +kernel, by decide +kernel⟩
set_option maxHeartbeats 4000000 in
theorem d_law {Z : Wd} (T : Tops Z) : ∀ f fd, Fun Z.K "law" "law" s_law f fd → FnOk Z.P Z.w Z.K Z.mg Z.base (L2.CX Z.P Z.w) (24 + 1) f fd ["_law_script"] (spOf Z.T Z.K Z.mg (runDef 1 6 (b_law))) := fun f fd F =>
  def_ok F sc_law fun X E W A hT => fss_cons (fs_set A (i := 1) rfl rfl ((fe_call A hT ((k_law_words T).mono (by decide)) (fl_cons ((fe_call A hT ((k_law_cell_at T).mono (by decide)) (fl_cons ((fe_var A (i := 0) rfl rfl).toP) (fl_cons fe_int.toP fl_nil))).toP) (fl_cons fe_int.toP fl_nil))).toP)) (fss_cons (fs_set A (i := 2) rfl rfl ((fe_call A hT ((k_law_holes T).mono (by decide)) (fl_cons ((fe_call A hT ((k_law_cell_at T).mono (by decide)) (fl_cons ((fe_var A (i := 0) rfl rfl).toP) (fl_cons fe_int.toP fl_nil))).toP) (fl_cons ((fe_var A (i := 1) rfl rfl).toP) fl_nil))).toP)) (fss_cons (fs_set A (i := 3) rfl rfl ((fe_call A hT ((k_law_rule T).mono (by decide)) (fl_cons ((fe_slice (fe_var A (i := 0) rfl rfl) (fo_some fe_int) (fo_some fe_int)).toP) (fl_cons ((fe_var A (i := 1) rfl rfl).toP) (fl_cons ((fe_var A (i := 2) rfl rfl).toP) fl_nil)))).toP)) (fss_cons (fs_if (ft_isn (fe_call A hT ((k_is_rule T).mono (by decide)) (fl_cons ((fe_var A (i := 3) rfl rfl).toP) fl_nil)) fe_bl) (fss_one (fs_ret fe_bl)) fss_nil) (fss_cons (fs_set A (i := 4) rfl rfl ((fe_call A hT ((k_law_mix T).mono (by decide)) (fl_cons ((fe_call A hT ((k_law_cell_at T).mono (by decide)) (fl_cons ((fe_var A (i := 0) rfl rfl).toP) (fl_cons fe_int.toP fl_nil))).toP) (fl_cons fe_int.toP fl_nil))).toP)) (fss_cons (fs_for A [5] (fi_range1 A (A.no T.m_range) (fl_cons fe_int.toP fl_nil)) srcR1_ns (fg_name A (i := 5) rfl rfl) (fss_one (fs_if (ft_isn (fe_call A hT ((k_is_rule T).mono (by decide)) (fl_cons ((fe_call A hT ((k_law_spoiled T).mono (by decide)) (fl_cons ((fe_var A (i := 3) rfl rfl).toP) (fl_cons ((fe_add (fe_var A (i := 4) rfl rfl) (fe_mul fe_int (fe_var A (i := 5) rfl rfl))).toP) (fl_cons ((fe_var A (i := 1) rfl rfl).toP) fl_nil)))).toP) fl_nil)) fe_bl) (fss_one (fs_ret fe_bl)) fss_nil))) (fss_one (fs_ret (fe_is (fe_call A hT ((k_is_rule T).mono (by decide)) (fl_cons ((fe_var A (i := 3) rfl rfl).toP) fl_nil)) fe_bl))))))))
theorem k_law {Z : Wd} (T : Tops Z) : Known Z 25 "law" [] f_law := T.t_law.known (d_law T)
end HF

end
section
set_option Elab.async false
set_option linter.all false
set_option maxRecDepth 20000
set_option autoImplicit false
/-! HM: plain lemmas on loops and comprehensions; terms. -/
namespace HF
open PySem PySem.Spec PyProof.Rows L2

/-! ### loops -/
section
variable {e : EV} {all : List PV} {pt : Pat} {vs ws : List Nat} {t : Sm Bool} {f : Sm PV} {b : Ss} {c : Sm Bool}
theorem lcL_nil (acc : List PV) (M : Mem) (h : Chk e all M) : lcL e all pt vs t f [] acc M = some (acc, M) := by
  unfold lcL; rw [if_pos h]
theorem lcL_fm {α : Type} (M : Mem) (h : Chk e all M) (k : α → PV) (g : α → Option PV) : ∀ (ys : List α) (acc : List PV), (∀ y ∈ ys, lcStep pt vs t f (k y) M = some (g y, M)) → lcL e all pt vs t f (ys.map k) acc M = some (acc ++ ys.filterMap g, M)
  | [], acc, _ => by rw [List.map_nil, lcL_nil _ _ h]; simp
  | y :: ys, acc, H => by
    have h1 := H y List.mem_cons_self
    have h2 := fun acc => lcL_fm M h k g ys acc fun z hz => H z (List.mem_cons_of_mem _ hz)
    simp only [List.map_cons]
    unfold lcL
    rw [if_pos h, h1]
    cases e : g y with
    | none => simp only [h2, List.filterMap_cons, e]
    | some p => simp only [h2, List.filterMap_cons, e, List.append_assoc, List.singleton_append]
theorem lcL_map {α : Type} (M : Mem) (h : Chk e all M) (k g : α → PV) (ys : List α) (acc : List PV) (H : ∀ y ∈ ys, lcStep pt vs t f (k y) M = some (some (g y), M)) : lcL e all pt vs t f (ys.map k) acc M = some (acc ++ ys.map g, M) := by
  rw [lcL_fm M h k (fun y => some (g y)) ys acc H]
  simp
theorem lcL_inv {α : Type} (k : α → PV) (I : List α → List PV → Mem → Prop)
    (step : ∀ y ys acc M, I (y :: ys) acc M → Chk e all M ∧ ((∃ p M', lcStep pt vs t f (k y) M = some (some p, M') ∧ I ys (acc ++ [p]) M') ∨ ∃ M', lcStep pt vs t f (k y) M = some (none, M') ∧ I ys acc M'))
    (fin : ∀ acc M, I [] acc M → Chk e all M) : ∀ (ys : List α) (acc : List PV) (M : Mem), I ys acc M → ∃ acc' M', lcL e all pt vs t f (ys.map k) acc M = some (acc', M') ∧ I [] acc' M'
  | [], acc, M, h => ⟨acc, M, by rw [List.map_nil, lcL_nil _ _ (fin acc M h)], h⟩
  | y :: ys, acc, M, h => by
    obtain ⟨h1, h2⟩ := step y ys acc M h
    simp only [List.map_cons]
    unfold lcL
    rw [if_pos h1]
    rcases h2 with ⟨p, M', e1, h3⟩ | ⟨M', e1, h3⟩
    · rw [e1]; exact lcL_inv k I step fin ys _ M' h3
    · rw [e1]; exact lcL_inv k I step fin ys _ M' h3
theorem forL_inv {α : Type} (k : α → PV) (I : List α → Mem → Prop) (Q : SR → Prop)
    (step : ∀ y ys M, I (y :: ys) M → Chk e all M ∧ ((∃ M', forTurn pt b ws (k y) M = .go M' ∧ I ys M') ∨ ∃ z, forTurn pt b ws (k y) M = .out z ∧ Q z))
    (fin : ∀ M, I [] M → Chk e all M ∧ Q (.nx M)) : ∀ (ys : List α) (M : Mem), I ys M → Q (forL e all pt b ws (ys.map k) M)
  | [], M, h => by
    obtain ⟨h1, h2⟩ := fin M h
    simp only [List.map_nil]; unfold forL; rw [if_pos h1]; exact h2
  | y :: ys, M, h => by
    obtain ⟨h1, h2⟩ := step y ys M h
    simp only [List.map_cons]
    unfold forL
    rw [if_pos h1]
    rcases h2 with ⟨M', e1, h3⟩ | ⟨z, e1, h3⟩
    · rw [e1]; exact forL_inv k I Q step fin ys M' h3
    · rw [e1]; exact h3
/-- a loop that always goes on: its state is a function of what it has seen -/
theorem forL_fold {α σ : Type} (St : σ → Mem) (k : α → PV) (step : σ → α → σ) (h : ∀ s, Chk e all (St s)) : ∀ (ys : List α) (s : σ), (∀ y ∈ ys, ∀ s, forTurn pt b ws (k y) (St s) = .go (St (step s y))) → forL e all pt b ws (ys.map k) (St s) = .nx (St (ys.foldl step s))
  | [], s, _ => by simp only [List.map_nil]; unfold forL; rw [if_pos (h s)]; rfl
  | y :: ys, s, H => by
    have h2 := forL_fold St k step h ys (step s y) fun z hz => H z (List.mem_cons_of_mem _ hz)
    simp only [List.map_cons]
    unfold forL
    rw [if_pos (h s), H y List.mem_cons_self s]
    exact h2
theorem lcL_map0 {α : Type} (M : Mem) (k g : α → PV) (ys : List α) (acc : List PV) (H : ∀ y ∈ ys, lcStep pt vs t f (k y) M = some (some (g y), M)) : lcL (.v .non) all pt vs t f (ys.map k) acc M = some (acc ++ ys.map g, M) := lcL_map (e := .v .non) (all := all) M trivial k g ys acc H
theorem lcL_fm0 {α : Type} (M : Mem) (k : α → PV) (g : α → Option PV) (ys : List α) (acc : List PV) (H : ∀ y ∈ ys, lcStep pt vs t f (k y) M = some (g y, M)) : lcL (.v .non) all pt vs t f (ys.map k) acc M = some (acc ++ ys.filterMap g, M) := lcL_fm (e := .v .non) (all := all) M trivial k g ys acc H
theorem forL_fold0 {α σ : Type} (St : σ → Mem) (k : α → PV) (step : σ → α → σ) (ys : List α) (s : σ) (H : ∀ y ∈ ys, ∀ s, forTurn pt b ws (k y) (St s) = .go (St (step s y))) : forL (.v .non) all pt b ws (ys.map k) (St s) = .nx (St (ys.foldl step s)) := forL_fold (e := .v .non) (all := all) St k step (fun _ => trivial) ys s H
theorem whileL_inv (I : Nat → Mem → Prop) (Q : SR → Prop)
    (step : ∀ n M, I n M → (∃ M1, c M = .ok false M1 ∧ Q (.nx M1)) ∨ ∃ M1, c M = .ok true M1 ∧ ((∃ M2 n', (b M1 = .nx M2 ∨ b M1 = .cnt M2) ∧ n' < n ∧ I n' (forget ws M2)) ∨ (∃ M2, b M1 = .brk M2 ∧ Q (.nx (forget ws M2))) ∨ (∃ e M2, b M1 = .ret e M2 ∧ Q (.ret e M2)))) :
    ∀ (n : Nat) (M : Mem) (fuel : Nat), n < fuel → I n M → Q (whileL c b ws fuel M) := by
  intro n M fuel
  induction fuel generalizing n M with
  | zero => intro h; omega
  | succ m ih =>
    intro lt h
    unfold whileL
    rcases step n M h with ⟨M1, e1, q⟩ | ⟨M1, e1, q⟩
    · rw [e1]; simpa using q
    · rw [e1]
      rcases q with ⟨M2, n', e2, l2, q⟩ | ⟨M2, e2, q⟩ | ⟨e3, M2, e2, q⟩
      · rcases e2 with e2 | e2 <;> simp only [Res.st, if_true, e2] <;> exact ih n' _ (by omega) q
      · simpa only [Res.st, if_true, e2] using q
      · simpa only [Res.st, if_true, e2] using q
end

/-! ### terms -/
inductive Tm where
  | name (k : Nat)
  | sign (w : Str) (ps : List (Nat × Tm))
  | hole (w : Str) (ts : List Tm)
theorem Tm.lt_sign {w : Str} {ps : List (Nat × Tm)} {p : Nat × Tm} (h : p ∈ ps) : sizeOf p.2 < sizeOf (Tm.sign w ps) := by
  have := List.sizeOf_lt_of_mem h
  obtain ⟨a, b⟩ := p
  simp at this ⊢
  omega
theorem Tm.lt_hole {w : Str} {ts : List Tm} {p : Tm} (h : p ∈ ts) : sizeOf p < sizeOf (Tm.hole w ts) := by
  have := List.sizeOf_lt_of_mem h
  simp at this ⊢
  omega
section
variable {α : Type} (fn : Nat → α) (fs : Str → List (Nat × α) → α) (fh : Str → List α → α)
def Tm.fold : Tm → α
  | .name k => fn k
  | .sign w ps => fs w (ps.attach.map fun p => (p.1.1, Tm.fold p.1.2))
  | .hole w ts => fh w (ts.attach.map fun p => Tm.fold p.1)
termination_by t => sizeOf t
decreasing_by
  · exact Tm.lt_sign p.2
  · exact Tm.lt_hole p.2
theorem Tm.fold_name (k : Nat) : Tm.fold fn fs fh (.name k) = fn k := by rw [Tm.fold]
theorem Tm.fold_sign (w : Str) (ps : List (Nat × Tm)) : Tm.fold fn fs fh (.sign w ps) = fs w (ps.map fun p => (p.1, Tm.fold fn fs fh p.2)) := by
  rw [Tm.fold]; congr 1; exact List.attach_map_val (l := ps) (f := fun p => (p.1, Tm.fold fn fs fh p.2))
theorem Tm.fold_hole (w : Str) (ts : List Tm) : Tm.fold fn fs fh (.hole w ts) = fh w (ts.map fun p => Tm.fold fn fs fh p) := by
  rw [Tm.fold]; congr 1; exact List.attach_map_val (l := ts) (f := fun p => Tm.fold fn fs fh p)
end
theorem Tm.ind {P : Tm → Prop} (hn : ∀ k, P (.name k)) (hs : ∀ w ps, (∀ p ∈ ps, P p.2) → P (.sign w ps)) (hh : ∀ w ts, (∀ t ∈ ts, P t) → P (.hole w ts)) (t : Tm) : P t :=
  match t with
  | .name k => hn k
  | .sign w ps => hs w ps fun p hp => Tm.ind hn hs hh p.2
  | .hole w ts => hh w ts fun p hp => Tm.ind hn hs hh p
termination_by sizeOf t
decreasing_by
  · exact Tm.lt_sign hp
  · exact Tm.lt_hole hp
/-- how a term is told -/
def Tm.enc : Tm → PV := Tm.fold (fun k => .tup [.str "name", .int k]) (fun w ps => .tup [.str "sign", .str w, .tup (ps.map fun p => .tup [.int p.1, p.2])]) (fun w ts => .tup [.str "hole", .str w, .tup ts])
def encP (p : Nat × Tm) : PV := .tup [.int p.1, p.2.enc]
theorem Tm.enc_name (k : Nat) : (Tm.name k).enc = .tup [.str "name", .int k] := Tm.fold_name ..
theorem Tm.enc_sign (w : Str) (ps : List (Nat × Tm)) : (Tm.sign w ps).enc = .tup [.str "sign", .str w, .tup (ps.map encP)] := by
  unfold Tm.enc; rw [Tm.fold_sign, List.map_map]; rfl
theorem Tm.enc_hole (w : Str) (ts : List Tm) : (Tm.hole w ts).enc = .tup [.str "hole", .str w, .tup (ts.map Tm.enc)] := by
  unfold Tm.enc; rw [Tm.fold_hole]
/-- its parts -/
def Tm.inner : Tm → List (Nat × Tm)
  | .name _ => []
  | .sign _ ps => ps
  | .hole _ ts => ts.map fun t => (0, t)
theorem Tm.ind' {P : Tm → Prop} (h : ∀ t : Tm, (∀ p ∈ t.inner, P p.2) → P t) (t : Tm) : P t :=
  Tm.ind (fun k => h _ fun p hp => by simp [Tm.inner] at hp) (fun w ps ih => h _ fun p hp => ih p hp) (fun w ts ih => h _ fun p hp => by
    simp only [Tm.inner, List.mem_map] at hp
    obtain ⟨t, ht, rfl⟩ := hp
    exact ih t ht) t
def Tm.size : Tm → Nat := Tm.fold (fun _ => 1) (fun _ ps => 1 + (ps.map (·.2)).sum) (fun _ ts => 1 + ts.sum)
theorem Tm.size_eq (t : Tm) : t.size = 1 + (t.inner.map fun p => p.2.size).sum := by
  cases t with
  | name k => simp [Tm.size, Tm.fold_name, Tm.inner]
  | sign w ps => simp [Tm.size, Tm.fold_sign, Tm.inner, Function.comp_def]
  | hole w ts => simp [Tm.size, Tm.fold_hole, Tm.inner, Function.comp_def]
def nmax : List Nat → Nat
  | [] => 0
  | n :: ns => max n (nmax ns)
theorem le_nmax {n : Nat} : ∀ {ns : List Nat}, n ∈ ns → n ≤ nmax ns
  | m :: ns, h => by
    unfold nmax
    rcases List.mem_cons.mp h with rfl | h
    · omega
    · have := le_nmax h; omega
theorem nmax_le {n : Nat} : ∀ {ns : List Nat}, (∀ m ∈ ns, m ≤ n) → nmax ns ≤ n
  | [], _ => Nat.zero_le _
  | m :: ns, h => by
    unfold nmax
    have h1 := h m List.mem_cons_self
    have h2 := nmax_le (ns := ns) fun k hk => h k (List.mem_cons_of_mem _ hk)
    omega
/-- how many levels it has: a leaf has one -/
def Tm.depth : Tm → Nat := Tm.fold (fun _ => 1) (fun _ ps => 1 + nmax (ps.map (·.2))) (fun _ ts => 1 + nmax ts)
theorem Tm.depth_eq (t : Tm) : t.depth = 1 + nmax (t.inner.map fun p => p.2.depth) := by
  cases t with
  | name k => simp [Tm.depth, Tm.fold_name, Tm.inner, nmax]
  | sign w ps => simp [Tm.depth, Tm.fold_sign, Tm.inner, Function.comp_def]
  | hole w ts => simp [Tm.depth, Tm.fold_hole, Tm.inner, Function.comp_def]
theorem Tm.depth_lt {t : Tm} {p : Nat × Tm} (h : p ∈ t.inner) : p.2.depth < t.depth := by
  rw [Tm.depth_eq t]
  have := le_nmax (List.mem_map_of_mem (f := fun p : Nat × Tm => p.2.depth) h)
  omega
theorem le_nsum {n : Nat} : ∀ {ns : List Nat}, n ∈ ns → n ≤ ns.sum
  | m :: ns, h => by
    rw [List.sum_cons]
    rcases List.mem_cons.mp h with rfl | h
    · omega
    · have := le_nsum h; omega
theorem Tm.size_lt {t : Tm} {p : Nat × Tm} (h : p ∈ t.inner) : p.2.size < t.size := by
  rw [Tm.size_eq t]
  have := le_nsum (List.mem_map_of_mem (f := fun p : Nat × Tm => p.2.size) h)
  omega
theorem Tm.size_pos (t : Tm) : 0 < t.size := by rw [Tm.size_eq]; omega
theorem Tm.inner_len {t : Tm} : t.inner.length < t.size := by
  rw [Tm.size_eq]
  have : ∀ l : List (Nat × Tm), l.length ≤ (l.map fun p => p.2.size).sum := by
    intro l
    induction l with
    | nil => simp
    | cons p l ih => have := p.2.size_pos; simp only [List.map_cons, List.sum_cons, List.length_cons]; omega
  have := this t.inner
  omega
theorem atI_nat {α : Type} (xs : List α) (j : Nat) : atI xs (j : Int) = xs[j]? := by
  unfold atI ixN
  rw [if_pos (Int.natCast_nonneg j)]
  by_cases h : (j : Int) < xs.length
  · rw [if_pos h]; simp
  · rw [if_neg h]
    have : xs.length ≤ j := by omega
    simp [this]
theorem atI_ofNat {α : Type} (xs : List α) (n : Nat) : atI xs (@OfNat.ofNat Int n _) = xs[n]? := atI_nat xs n
theorem atI_0 {α : Type} (xs : List α) : atI xs 0 = xs[0]? := atI_nat xs 0
theorem atI_1 {α : Type} (xs : List α) : atI xs 1 = xs[1]? := atI_nat xs 1
theorem atI_2 {α : Type} (xs : List α) : atI xs 2 = xs[2]? := atI_nat xs 2
theorem atI_3 {α : Type} (xs : List α) : atI xs 3 = xs[3]? := atI_nat xs 3
theorem str_ns : (Str.ofString "name" = Str.ofString "sign") = False := by simp; decide +kernel
theorem str_nh : (Str.ofString "name" = Str.ofString "hole") = False := by simp; decide +kernel
theorem str_sn : (Str.ofString "sign" = Str.ofString "name") = False := by simp; decide +kernel
theorem str_sh : (Str.ofString "sign" = Str.ofString "hole") = False := by simp; decide +kernel
theorem str_hn : (Str.ofString "hole" = Str.ofString "name") = False := by simp; decide +kernel
theorem str_hs : (Str.ofString "hole" = Str.ofString "sign") = False := by simp; decide +kernel
theorem sizeLine_val : sizeLine = 16777216 := by decide
/-! ### terms as data -/
theorem asInts_fun {α : Type} (g : α → Int) : ∀ ys : List α, asInts (ys.map fun y => .int (g y)) = some (ys.map g)
  | [] => rfl
  | y :: ys => by simp [asInts_fun g ys]
theorem asInts_snoc (xs : List PV) (ns : List Int) (n : Int) (h : asInts xs = some ns) : asInts (xs ++ [.int n]) = some (ns ++ [n]) := by
  induction xs generalizing ns with
  | nil => cases h; rfl
  | cons x xs ih =>
    cases x <;> simp only [asInts] at h <;> try cases h
    rename_i i
    cases e : asInts xs with
    | none => simp [e] at h
    | some ms =>
      simp [e] at h
      subst h
      simp [ih ms e]
theorem toDs_map {α : Type} (k : α → PV) (d : α → PyData) : ∀ ys : List α, (∀ y ∈ ys, (k y).toD = some (d y)) → toDs (ys.map k) = some (ys.map d)
  | [], _ => by simp [toDs]
  | y :: ys, h => by simp [toDs, h y List.mem_cons_self, toDs_map k d ys fun z hz => h z (List.mem_cons_of_mem _ hz)]
theorem canLayAll0_all : ∀ ds : List PyData, PyData.canLayAll0 ds = ds.all PyData.canLay0
  | [] => rfl
  | d :: ds => by simp [PyData.canLayAll0, canLayAll0_all ds]
theorem depthAll_nmax : ∀ ds : List PyData, PyData.depthAll ds = nmax (ds.map PyData.depth)
  | [] => rfl
  | d :: ds => by simp [PyData.depthAll, nmax, depthAll_nmax ds]
theorem shaped_list {ds : List PyData} (h : ∀ d ∈ ds, d.canLay0 = true ∧ d.depth ≤ 63) : SeqAt.shaped (.list ds) = true := by
  unfold SeqAt.shaped
  simp only [PyData.canLay0, PyData.depth, canLayAll0_all, depthAll_nmax, Bool.and_eq_true, List.all_eq_true, decide_eq_true_eq]
  refine ⟨fun d hd => (h d hd).1, ?_⟩
  have : nmax (ds.map PyData.depth) ≤ 63 := nmax_le fun m hm => by
    obtain ⟨d, hd, rfl⟩ := List.mem_map.mp hm
    exact (h d hd).2
  omega
theorem eqv_nil (ds : List PyData) : PyData.eqv (.list ds) (.list []) = ds.isEmpty := by
  cases ds <;> simp [PyData.eqv, PyData.eqvAll]
def Tm.dat : Tm → PyData := Tm.fold (fun k => .tuple [.str "name", .int k]) (fun w ps => .tuple [.str "sign", .str w, .tuple (ps.map fun p => .tuple [.int p.1, p.2])]) (fun w ts => .tuple [.str "hole", .str w, .tuple ts])
def datP (p : Nat × Tm) : PyData := .tuple [.int p.1, p.2.dat]
theorem Tm.dat_name (k : Nat) : (Tm.name k).dat = .tuple [.str "name", .int k] := Tm.fold_name ..
theorem Tm.dat_sign (w : Str) (ps : List (Nat × Tm)) : (Tm.sign w ps).dat = .tuple [.str "sign", .str w, .tuple (ps.map datP)] := by
  unfold Tm.dat; rw [Tm.fold_sign, List.map_map]; rfl
theorem Tm.dat_hole (w : Str) (ts : List Tm) : (Tm.hole w ts).dat = .tuple [.str "hole", .str w, .tuple (ts.map Tm.dat)] := by
  unfold Tm.dat; rw [Tm.fold_hole]
theorem Tm.enc_toD (t : Tm) : t.enc.toD = some t.dat := by
  induction t using Tm.ind with
  | hn k => simp [Tm.enc_name, Tm.dat_name, PV.toD, toDs]
  | hs w ps ih => 
    have := toDs_map encP datP ps fun p hp => by simp [encP, datP, PV.toD, toDs, ih p hp]
    simp [Tm.enc_sign, Tm.dat_sign, PV.toD, toDs, this]
  | hh w ts ih => 
    have := toDs_map Tm.enc Tm.dat ts fun p hp => ih p hp
    simp [Tm.enc_hole, Tm.dat_hole, PV.toD, toDs, this]
/-- all words of a term -/
def Tm.words : Tm → List Str := Tm.fold (fun _ => []) (fun w ps => w :: (ps.map (·.2)).flatten) (fun w ts => w :: ts.flatten)
theorem Tm.words_name (k : Nat) : (Tm.name k).words = [] := Tm.fold_name ..
theorem Tm.words_sign (w : Str) (ps : List (Nat × Tm)) : (Tm.sign w ps).words = w :: (ps.map fun p => p.2.words).flatten := by
  unfold Tm.words; rw [Tm.fold_sign, List.map_map]; rfl
theorem Tm.words_hole (w : Str) (ts : List Tm) : (Tm.hole w ts).words = w :: (ts.map Tm.words).flatten := by
  unfold Tm.words; rw [Tm.fold_hole]
/-- its words can be compared -/
def Tm.Lay (t : Tm) : Prop := ∀ w ∈ t.words, PyData.strOk w = true
theorem Tm.Lay.inner {t : Tm} (h : t.Lay) {p : Nat × Tm} (hp : p ∈ t.inner) : p.2.Lay := by
  intro w hw
  cases t with
  | name k => simp [Tm.inner] at hp
  | sign v ps => refine h w ?_; rw [Tm.words_sign]; exact List.mem_cons_of_mem _ (List.mem_flatten.mpr ⟨_, List.mem_map_of_mem hp, hw⟩)
  | hole v ts => 
    simp only [Tm.inner, List.mem_map] at hp
    obtain ⟨t, ht, rfl⟩ := hp
    refine h w ?_; rw [Tm.words_hole]; exact List.mem_cons_of_mem _ (List.mem_flatten.mpr ⟨_, List.mem_map_of_mem ht, hw⟩)
theorem nmax_map_le {α : Type} {f g : α → Nat} : ∀ {ys : List α}, (∀ y ∈ ys, f y ≤ g y) → nmax (ys.map f) ≤ nmax (ys.map g)
  | [], _ => Nat.le_refl _
  | y :: ys, h => by
    have h1 := h y List.mem_cons_self
    have h2 := nmax_map_le (f := f) (g := g) (ys := ys) fun z hz => h z (List.mem_cons_of_mem _ hz)
    simp only [List.map_cons, nmax]
    omega
theorem strOk_name : PyData.strOk (Str.ofString "name") = true := by decide +kernel
theorem strOk_sign : PyData.strOk (Str.ofString "sign") = true := by decide +kernel
theorem strOk_hole : PyData.strOk (Str.ofString "hole") = true := by decide +kernel
theorem Tm.dat_lay (t : Tm) (h : t.Lay) : t.dat.canLay0 = true := by
  induction t using Tm.ind with
  | hn k => simp [Tm.dat_name, PyData.canLay0, PyData.canLayAll0, strOk_name]
  | hs w ps ih => 
    have h1 : PyData.strOk w = true := h w (by rw [Tm.words_sign]; exact List.mem_cons_self)
    simp only [Tm.dat_sign, PyData.canLay0, PyData.canLayAll0, strOk_sign, h1, canLayAll0_all, Bool.and_true, Bool.true_and, List.all_eq_true]
    intro d hd
    obtain ⟨p, hp, rfl⟩ := List.mem_map.mp hd
    simp [datP, PyData.canLay0, PyData.canLayAll0, ih p hp (h.inner (t := .sign w ps) hp)]
  | hh w ts ih => 
    have h1 : PyData.strOk w = true := h w (by rw [Tm.words_hole]; exact List.mem_cons_self)
    simp only [Tm.dat_hole, PyData.canLay0, PyData.canLayAll0, strOk_hole, h1, canLayAll0_all, Bool.and_true, Bool.true_and, List.all_eq_true]
    intro d hd
    obtain ⟨p, hp, rfl⟩ := List.mem_map.mp hd
    exact ih p hp (h.inner (t := .hole w ts) (p := (0, p)) (by simp [Tm.inner, hp]))
theorem Tm.dat_depth (t : Tm) : t.dat.depth ≤ 3 * t.depth := by
  induction t using Tm.ind with
  | hn k => simp [Tm.dat_name, PyData.depth, PyData.depthAll, Tm.depth, Tm.fold_name]
  | hs w ps ih => 
    rw [Tm.depth_eq]
    simp only [Tm.dat_sign, PyData.depth, PyData.depthAll, depthAll_nmax, Tm.inner, List.map_map]
    have : nmax (ps.map (PyData.depth ∘ datP)) ≤ 1 + 3 * nmax (ps.map fun p => p.2.depth) := nmax_le fun m hm => by
      obtain ⟨p, hp, rfl⟩ := List.mem_map.mp hm
      have h1 := ih p hp
      have h2 := le_nmax (List.mem_map_of_mem (f := fun p : Nat × Tm => p.2.depth) hp)
      simp only [Function.comp, datP, PyData.depth, PyData.depthAll]
      omega
    omega
  | hh w ts ih => 
    rw [Tm.depth_eq]
    simp only [Tm.dat_hole, PyData.depth, PyData.depthAll, depthAll_nmax, Tm.inner, List.map_map]
    have : nmax (ts.map (PyData.depth ∘ Tm.dat)) ≤ 3 * nmax (ts.map ((fun p : Nat × Tm => p.2.depth) ∘ fun t => (0, t))) := nmax_le fun m hm => by
      obtain ⟨p, hp, rfl⟩ := List.mem_map.mp hm
      have h1 := ih p hp
      have h2 := le_nmax (List.mem_map_of_mem (f := ((fun p : Nat × Tm => p.2.depth) ∘ fun t => (0, t))) hp)
      simp only [Function.comp] at h2 ⊢
      omega
    omega
theorem Tm.dat_ok {t : Tm} (h : t.Lay) (hd : t.depth ≤ 20) : t.dat.canLay0 = true ∧ t.dat.depth ≤ 60 := ⟨t.dat_lay h, by have := t.dat_depth; omega⟩
theorem toDs_ints (ns : List Int) : toDs (ns.map .int) = some (ns.map .int) := toDs_map _ _ ns fun _ _ => by simp [PV.toD]
theorem shaped_ints (ns : List Int) : SeqAt.shaped (.list (ns.map .int)) = true := shaped_list fun d hd => by
  obtain ⟨n, _, rfl⟩ := List.mem_map.mp hd
  simp [PyData.canLay0, PyData.depth]
theorem shaped_nil : SeqAt.shaped (.list []) = true := shaped_ints []
/-- all names lie in a scope -/
def Tm.In : Tm → Nat → Prop := Tm.fold (fun k s => k < s) (fun _ ps s => ∀ p ∈ ps, p.2 (s + p.1)) (fun _ ts s => ∀ t ∈ ts, t s)
theorem Tm.In_name (k s : Nat) : (Tm.name k).In s ↔ k < s := by unfold Tm.In; rw [Tm.fold_name]
theorem Tm.In_sign (w : Str) (ps : List (Nat × Tm)) (s : Nat) : (Tm.sign w ps).In s ↔ ∀ p ∈ ps, p.2.In (s + p.1) := by
  unfold Tm.In; rw [Tm.fold_sign]; simp only [List.mem_map, forall_exists_index, and_imp, forall_apply_eq_imp_iff₂]
theorem Tm.In_hole (w : Str) (ts : List Tm) (s : Nat) : (Tm.hole w ts).In s ↔ ∀ t ∈ ts, t.In s := by
  unfold Tm.In; rw [Tm.fold_hole]; simp only [List.mem_map, forall_exists_index, and_imp, forall_apply_eq_imp_iff₂]
/-- what holds of each sign and each hole of a term -/
def Tm.Ok (S : Str → List Nat → Prop) (O : Str → Nat → Prop) : Tm → Prop := Tm.fold (fun _ => True) (fun w ps => S w (ps.map (·.1)) ∧ ∀ p ∈ ps, p.2) (fun w ts => O w ts.length ∧ ∀ t ∈ ts, t)
section
variable {S : Str → List Nat → Prop} {O : Str → Nat → Prop}
theorem Tm.Ok_name (k : Nat) : (Tm.name k).Ok S O ↔ True := by unfold Tm.Ok; rw [Tm.fold_name]
theorem Tm.Ok_sign (w : Str) (ps : List (Nat × Tm)) : (Tm.sign w ps).Ok S O ↔ S w (ps.map (·.1)) ∧ ∀ p ∈ ps, p.2.Ok S O := by
  unfold Tm.Ok; rw [Tm.fold_sign]; simp only [List.mem_map, forall_exists_index, and_imp, forall_apply_eq_imp_iff₂, List.map_map]; rfl
theorem Tm.Ok_hole (w : Str) (ts : List Tm) : (Tm.hole w ts).Ok S O ↔ O w ts.length ∧ ∀ t ∈ ts, t.Ok S O := by
  unfold Tm.Ok; rw [Tm.fold_hole]; simp only [List.mem_map, forall_exists_index, and_imp, forall_apply_eq_imp_iff₂, List.length_map]
theorem Tm.Ok.inner {t : Tm} (h : t.Ok S O) {p : Nat × Tm} (hp : p ∈ t.inner) : p.2.Ok S O := by
  cases t with
  | name k => simp [Tm.inner] at hp
  | sign w ps => exact ((Tm.Ok_sign w ps).mp h).2 p hp
  | hole w ts =>
    simp only [Tm.inner, List.mem_map] at hp
    obtain ⟨t, ht, rfl⟩ := hp
    exact ((Tm.Ok_hole w ts).mp h).2 t ht
theorem Tm.Ok.lay {t : Tm} (h : t.Ok S O) (hS : ∀ w l, S w l → PyData.strOk w = true) (hO : ∀ w l, O w l → PyData.strOk w = true) : t.Lay := by
  induction t using Tm.ind with
  | hn k => intro w hw; simp [Tm.words_name] at hw
  | hs w ps ih =>
    intro v hv
    rw [Tm.words_sign] at hv
    have h' := (Tm.Ok_sign w ps).mp h
    rcases List.mem_cons.mp hv with rfl | hv
    · exact hS _ _ h'.1
    · obtain ⟨l, hl, hv⟩ := List.mem_flatten.mp hv
      obtain ⟨p, hp, rfl⟩ := List.mem_map.mp hl
      exact ih p hp (h'.2 p hp) v hv
  | hh w ts ih =>
    intro v hv
    rw [Tm.words_hole] at hv
    have h' := (Tm.Ok_hole w ts).mp h
    rcases List.mem_cons.mp hv with rfl | hv
    · exact hO _ _ h'.1
    · obtain ⟨l, hl, hv⟩ := List.mem_flatten.mp hv
      obtain ⟨p, hp, rfl⟩ := List.mem_map.mp hl
      exact ih p hp (h'.2 p hp) v hv
end
theorem kitB_NoneType_bool : kitB "NoneType" "bool" = some false := by decide +kernel
theorem kitB_NoneType_int : kitB "NoneType" "int" = some false := by decide +kernel
theorem kitB_NoneType_str : kitB "NoneType" "str" = some false := by decide +kernel
theorem kitB_NoneType_tuple : kitB "NoneType" "tuple" = some false := by decide +kernel
theorem kitB_NoneType_list : kitB "NoneType" "list" = some false := by decide +kernel
theorem kitB_NoneType_dict : kitB "NoneType" "dict" = some false := by decide +kernel
theorem kitB_bool_bool : kitB "bool" "bool" = some true := by decide +kernel
theorem kitB_bool_int : kitB "bool" "int" = some true := by decide +kernel
theorem kitB_bool_str : kitB "bool" "str" = some false := by decide +kernel
theorem kitB_bool_tuple : kitB "bool" "tuple" = some false := by decide +kernel
theorem kitB_bool_list : kitB "bool" "list" = some false := by decide +kernel
theorem kitB_bool_dict : kitB "bool" "dict" = some false := by decide +kernel
theorem kitB_int_bool : kitB "int" "bool" = some false := by decide +kernel
theorem kitB_int_int : kitB "int" "int" = some true := by decide +kernel
theorem kitB_int_str : kitB "int" "str" = some false := by decide +kernel
theorem kitB_int_tuple : kitB "int" "tuple" = some false := by decide +kernel
theorem kitB_int_list : kitB "int" "list" = some false := by decide +kernel
theorem kitB_int_dict : kitB "int" "dict" = some false := by decide +kernel
theorem kitB_str_bool : kitB "str" "bool" = some false := by decide +kernel
theorem kitB_str_int : kitB "str" "int" = some false := by decide +kernel
theorem kitB_str_str : kitB "str" "str" = some true := by decide +kernel
theorem kitB_str_tuple : kitB "str" "tuple" = some false := by decide +kernel
theorem kitB_str_list : kitB "str" "list" = some false := by decide +kernel
theorem kitB_str_dict : kitB "str" "dict" = some false := by decide +kernel
theorem kitB_tuple_bool : kitB "tuple" "bool" = some false := by decide +kernel
theorem kitB_tuple_int : kitB "tuple" "int" = some false := by decide +kernel
theorem kitB_tuple_str : kitB "tuple" "str" = some false := by decide +kernel
theorem kitB_tuple_tuple : kitB "tuple" "tuple" = some true := by decide +kernel
theorem kitB_tuple_list : kitB "tuple" "list" = some false := by decide +kernel
theorem kitB_tuple_dict : kitB "tuple" "dict" = some false := by decide +kernel
theorem kitB_list_bool : kitB "list" "bool" = some false := by decide +kernel
theorem kitB_list_int : kitB "list" "int" = some false := by decide +kernel
theorem kitB_list_str : kitB "list" "str" = some false := by decide +kernel
theorem kitB_list_tuple : kitB "list" "tuple" = some false := by decide +kernel
theorem kitB_list_list : kitB "list" "list" = some true := by decide +kernel
theorem kitB_list_dict : kitB "list" "dict" = some false := by decide +kernel
theorem kitB_dict_bool : kitB "dict" "bool" = some false := by decide +kernel
theorem kitB_dict_int : kitB "dict" "int" = some false := by decide +kernel
theorem kitB_dict_str : kitB "dict" "str" = some false := by decide +kernel
theorem kitB_dict_tuple : kitB "dict" "tuple" = some false := by decide +kernel
theorem kitB_dict_list : kitB "dict" "list" = some false := by decide +kernel
theorem kitB_dict_dict : kitB "dict" "dict" = some true := by decide +kernel
theorem fits_of {x : Int} (h1 : -4000000000 ≤ x) (h2 : x ≤ 4000000000) : Builtin.Range.rangeFitsLong x = true := by
  unfold Builtin.Range.rangeFitsLong
  simp
  omega
theorem size_of {a b c : Int} (ha : 0 ≤ a) (ha2 : a ≤ 1000000) (hb : 0 ≤ b) (hb2 : b ≤ 1000000) (hc : 0 < c) (hc2 : c ≤ 1000000) : 0 ≤ Builtin.Range.rangeSize a b c ∧ Builtin.Range.rangeSize a b c ≤ 1000000 := by
  unfold Builtin.Range.rangeSize
  rw [if_pos hc]
  split
  · have h1 : 0 ≤ (b - a - 1) / c := Int.ediv_nonneg (by omega) (by omega)
    have h2 : (b - a - 1) / c ≤ b - a - 1 := Int.ediv_le_self _ (by omega)
    omega
  · omega
theorem small_of {a b c : Int} (ha : 0 ≤ a) (ha2 : a ≤ 1000000) (hb : 0 ≤ b) (hb2 : b ≤ 1000000) (hc : 0 < c) (hc2 : c ≤ 1000000) : Builtin.Range.small a b c = true := by
  have h := size_of ha ha2 hb hb2 hc hc2
  unfold Builtin.Range.small
  rw [fits_of (by omega) (by omega), fits_of (by omega) (by omega), fits_of (by omega) (by omega), fits_of (by omega) (by omega), if_pos hc, fits_of (by omega) (by omega)]
  simp
theorem rg3_of {a b c : Int} (ha : 0 ≤ a) (ha2 : a ≤ 1000000) (hb : 0 ≤ b) (hb2 : b ≤ 1000000) (hc : 0 < c) (hc2 : c ≤ 1000000) : rg3Ok a b c = true := by
  have h := size_of ha ha2 hb hb2 hc hc2
  unfold rg3Ok rgLen
  rw [small_of ha ha2 hb hb2 hc hc2]
  simp [sizeLine_val]
  omega
end HF

end
section
set_option autoImplicit false
namespace HF
end HF

end
section
set_option Elab.async false
set_option linter.all false
set_option maxRecDepth 20000
set_option autoImplicit false
namespace HF
open PySem PySem.Spec PyProof.Rows L2
/-! the drawing of terms -/
def mixI (c p : Int) : Int := ((c % 10 ^ 60 + 1) * (48271 + 130 * p) % 2147483647) * ((c % 10 ^ 60 + 1) * (48271 + 130 * p) % 2147483647) % 2147483629
theorem mixI_lo (c p : Int) : 0 ≤ mixI c p := Int.emod_nonneg _ (by omega)
theorem mixI_hi (c p : Int) : mixI c p < 2147483629 := Int.emod_lt_of_pos _ (by omega)
theorem cell_ok (ns : List Int) (k : Nat) (h : List PO) (hn : ns.length ≤ 1000) : f_law_cell_at [.rol (ns.map .int), .int k] h = .ok (.v (.int (ns[k]?.getD 0))) h := by
  have e1 : ns.length ≤ sizeLine := by rw [sizeLine_val]; omega
  unfold f_law_cell_at runDef b_law_cell_at
  by_cases lt : k < ns.length
  · simp [atI_nat, lt, e1]
  · simp [atI_nat, lt, e1]
theorem mix_ok (c p : Int) (h : List PO) (h1 : 0 ≤ p) (h2 : p ≤ 100000) : f_law_mix [.int c, .int p] h = .ok (.v (.int (mixI c p))) h := by
  have g1 : (48271 + 130 * p).natAbs < 2 ^ 64 := by omega
  have g2 : ((c % 10 ^ 60 + 1) * (48271 + 130 * p) % 2147483647).natAbs < 2 ^ 64 := by
    have := Int.emod_nonneg ((c % 10 ^ 60 + 1) * (48271 + 130 * p)) (b := 2147483647) (by omega)
    have := Int.emod_lt_of_pos ((c % 10 ^ 60 + 1) * (48271 + 130 * p)) (b := 2147483647) (by omega)
    omega
  unfold f_law_mix runDef b_law_mix mixI
  have g3 : p.natAbs < 2 ^ 64 := by omega
  simp at g1 g2 g3
  simp [g1, g2, g3]

theorem cutP_take {α : Type} (xs : List α) (k : Nat) : cutP xs none (some (k : Int)) = xs.take k := by
  unfold cutP
  rw [HT.sIx_nat, HT.sIx_none, List.drop_zero, Nat.sub_zero]
  by_cases h : k ≤ xs.length
  · rw [Nat.min_eq_left h]
  · rw [Nat.min_eq_right (by omega), List.take_of_length_le (by omega), List.take_of_length_le (by omega)]
theorem cutP_drop {α : Type} (xs : List α) (k : Nat) : cutP xs (some (k : Int)) none = xs.drop k := by
  unfold cutP
  rw [HT.sIx_nat, HT.sIx_none]
  by_cases h : k ≤ xs.length
  · rw [Nat.min_eq_left h, List.take_of_length_le (by simp)]
  · rw [Nat.min_eq_right (by omega), List.drop_of_length_le (by omega), List.drop_of_length_le (by omega)]; simp
theorem cutP_lit_take {α : Type} (xs : List α) (k : Nat) : cutP xs none (some (@OfNat.ofNat Int k _)) = xs.take k := cutP_take xs k
theorem cutP_lit_drop {α : Type} (xs : List α) (k : Nat) : cutP xs (some (@OfNat.ofNat Int k _)) none = xs.drop k := cutP_drop xs k
theorem cutP_1_drop {α : Type} (xs : List α) : cutP xs (some 1) none = xs.drop 1 := cutP_drop xs 1
theorem cutP_1_take {α : Type} (xs : List α) : cutP xs none (some 1) = xs.take 1 := cutP_take xs 1
theorem cutS_take (l : List Nat) (k : Nat) : cutS ⟨l.toArray⟩ none (some (k : Int)) = ⟨(l.take k).toArray⟩ := by
  have := cutP_take l k
  unfold cutP at this
  unfold cutS
  simp only [Str.length, List.size_toArray, List.toList_toArray]
  simp only [this]
theorem cutS_drop (l : List Nat) (k : Nat) : cutS ⟨l.toArray⟩ (some (k : Int)) none = ⟨(l.drop k).toArray⟩ := by
  have := cutP_drop l k
  unfold cutP at this
  unfold cutS
  simp only [Str.length, List.size_toArray, List.toList_toArray]
  simp only [this]
theorem str_app (a b : List Nat) : (⟨a.toArray⟩ : Str) ++ (⟨b.toArray⟩ : Str) = ⟨(a ++ b).toArray⟩ := by
  show Str.append _ _ = _
  simp [Str.append]
theorem str_app1 (a : List Nat) (x : Nat) : (⟨a.toArray⟩ : Str) ++ (⟨#[x]⟩ : Str) = ⟨(a ++ [x]).toArray⟩ := str_app a [x]
theorem str_len (a : List Nat) : (⟨a.toArray⟩ : Str).length = a.length := by simp [Str.length]
theorem str_len1 (x : Nat) : (⟨#[x]⟩ : Str).length = 1 := rfl
theorem join_chars (a : Str) (h : a.cps = #[]) : ∀ cs : List Nat, Txt.join a (cs.map fun c => ⟨#[c]⟩) = ⟨cs.toArray⟩ := by
  intro cs
  rw [eq_of_beq (PyProof.Rows.join_plain_closes a (cs.map fun c => ⟨#[c]⟩))]
  induction cs with
  | nil => rfl
  | cons c cs ih =>
    cases cs with
    | nil => rfl
    | cons d ds =>
      simp only [List.map_cons] at ih ⊢
      show ((⟨#[c]⟩ : Str) ++ a) ++ Str.join a _ = _
      rw [ih]
      show Str.append (Str.append _ _) _ = _
      simp [Str.append, h]
def lenW (c : Int) : Nat := (2 + mixI c 1 % 7).toNat
theorem lenW_eq (c : Int) : (lenW c : Int) = 2 + mixI c 1 % 7 := by unfold lenW; omega
def stemL (c : Int) : List Nat := (List.range (lenW c)).map fun (k : Nat) => 97 + (mixI c (2 + (k : Int)) % 26).toNat
def spotW (c : Int) : Nat := (mixI c 11 % lenW c).toNat
def wordL (c : Int) (k : Nat) : List Nat := (stemL c).take (spotW c) ++ ([97 + ((mixI c 12 + 7 * k) % 26).toNat] ++ (stemL c).drop (spotW c + 1))
def wordS (c : Int) (k : Nat) : Str := ⟨(wordL c k).toArray⟩
theorem abc_at (i : Int) (h1 : 0 ≤ i) (h2 : i < 26) : atI (Str.ofString "abcdefghijklmnopqrstuvwxyz").cps.toList i = some (97 + i.toNat) := by
  obtain ⟨n, rfl⟩ := Int.eq_ofNat_of_zero_le h1
  rw [atI_nat]
  have : (Str.ofString "abcdefghijklmnopqrstuvwxyz").cps.toList = (List.range 26).map (97 + ·) := by decide +kernel
  rw [this]
  have : n < 26 := by omega
  simp [this]
theorem abc_mod (x : Int) : atI (Str.ofString "abcdefghijklmnopqrstuvwxyz").cps.toList (x % 26) = some (97 + (x % 26).toNat) := abc_at _ (Int.emod_nonneg _ (by omega)) (Int.emod_lt_of_pos _ (by omega))
theorem asStrs_fun {α : Type} (g : α → Str) : ∀ ys : List α, asStrs (ys.map fun y => .str (g y)) = some (ys.map g)
  | [] => rfl
  | y :: ys => by simp [asStrs_fun g ys]
theorem ofString_empty : Str.ofString "" = ⟨#[]⟩ := by decide +kernel
theorem abc_len : (Str.ofString "abcdefghijklmnopqrstuvwxyz").length = 26 := by decide +kernel
theorem words_ok (c : Int) (n : Nat) (h : List PO) (hn : n ≤ 1000) : f_law_words [.int c, .int n] h = .ok (.fr (.lst ((List.range n).map fun k => .str (wordS c k)))) h := by
  have m := fun p (h1 : 0 ≤ p) (h2 : p ≤ 100000) => mix_ok c p h h1 h2
  have h7 : 0 ≤ mixI c 1 % 7 ∧ mixI c 1 % 7 < 7 := ⟨Int.emod_nonneg _ (by omega), Int.emod_lt_of_pos _ (by omega)⟩
  unfold f_law_words runDef b_law_words
  have g1 : (2 + mixI c 1 % 7).natAbs < 4611686018427387904 := by omega
  have g2 : (2 + mixI c 1 % 7).toNat ≤ sizeLine := by rw [sizeLine_val]; omega
  simp [m, g1, g2]
  rw [lcL_map0 _ (fun i : Nat => PV.int i) (fun k : Nat => .str ⟨#[97 + (mixI c (2 + (k : Int)) % 26).toNat]⟩)]
  · have e1 := asStrs_fun (fun k : Nat => (⟨#[97 + (mixI c (2 + (k : Int)) % 26).toNat]⟩ : Str)) (List.range (2 + mixI c 1 % 7).toNat)
    have e2 : Txt.join (Str.ofString "") ((List.range (2 + mixI c 1 % 7).toNat).map (fun k : Nat => (⟨#[97 + (mixI c (2 + (k : Int)) % 26).toNat]⟩ : Str))) = ⟨(stemL c).toArray⟩ := by
      rw [← join_chars (Str.ofString "") (by rw [ofString_empty]), stemL, List.map_map]; rfl
    have e3 : (((List.range (2 + mixI c 1 % 7).toNat).map (fun k : Nat => (⟨#[97 + (mixI c (2 + (k : Int)) % 26).toNat]⟩ : Str))).map (·.length)).sum ≤ 16777216 := by
      rw [List.map_map]
      have : ∀ l : List Nat, ((l.map ((fun x : Str => x.length) ∘ fun k : Nat => (⟨#[97 + (mixI c (2 + (k : Int)) % 26).toNat]⟩ : Str)))).sum = l.length := by
        intro l; induction l with
        | nil => rfl
        | cons a l ih => simp only [List.map_cons, List.sum_cons, ih, List.length_cons]; simp [Str.length]; omega
      rw [this]; simp; omega
    have e4 : (Str.ofString "").length = 0 := by decide +kernel
    simp at e3
    have l1 := lenW_eq c
    have l2 : (2 + mixI c 1 % 7 : Int) > 0 := by omega
    have hsp : mixI c 11 % (2 + mixI c 1 % 7) = (spotW c : Int) := by
      unfold spotW; rw [l1, Int.toNat_of_nonneg (Int.emod_nonneg _ (by omega))]
    have hst : (stemL c).length ≤ sizeLine := by rw [sizeLine_val, stemL]; simp; omega
    have hn2 : n ≤ sizeLine := by rw [sizeLine_val]; omega
    have g5 : (n : Int).natAbs < 4611686018427387904 := by omega
    have l3 : 0 < 2 + mixI c 1 % 7 := l2
    have g5 : n < 4611686018427387904 := by omega
    simp [e1, e2, e3, e4, m, l3, hsp, hn2, g5]
    rw [lcL_map0 _ (fun i : Nat => PV.int i) (fun k : Nat => .str (wordS c k))]
    · simp
    · intro k hk
      have hk' := List.mem_range.mp hk
      have g6 : (k : Int).natAbs < 2 ^ 64 := by omega
      have g4 : 26 ≤ sizeLine := by rw [sizeLine_val]; omega
      have g7 := cutS_drop (stemL c) (spotW c + 1)
      simp at g6 g7
      have hst' : (⟨(stemL c).toArray⟩ : Str).length ≤ sizeLine := by simpa [Str.length] using hst
      have g6 : k < 18446744073709551616 := by omega
      have g8 : (stemL c).length ≤ 8 := by rw [stemL]; simp; omega
      have g9 : min (spotW c) (stemL c).length + 1 ≤ sizeLine := by rw [sizeLine_val]; omega
      have g10 : min (spotW c) (stemL c).length + 1 + ((stemL c).length - (spotW c + 1)) ≤ sizeLine := by rw [sizeLine_val]; omega
      simp [abc_mod, abc_len, g4, g6, hst', cutS_take, g7, str_app, str_app1, str_len, str_len1, g9, g10, hst, wordS, wordL]
  · intro k hk
    have hk' := List.mem_range.mp hk
    have g3 := m (2 + (k : Int)) (by omega) (by omega)
    have g4 : 26 ≤ sizeLine := by rw [sizeLine_val]; omega
    simp [g3, abc_mod, abc_len, g4]
end HF

end
section
set_option Elab.async false
set_option linter.all false
set_option maxRecDepth 20000
set_option autoImplicit false
namespace HF
open PySem PySem.Spec PyProof.Rows L2
theorem wordS_ok (c : Int) (k : Nat) : PyData.strOk (wordS c k) = true := by
  have h1 : ∀ x ∈ stemL c, x < 1114112 := by
    intro x hx
    unfold stemL at hx
    obtain ⟨m, _, rfl⟩ := List.mem_map.mp hx
    have := Int.emod_lt_of_pos (mixI c (2 + m)) (b := 26) (by omega)
    omega
  have h2 := Int.emod_lt_of_pos (mixI c 12 + 7 * k) (b := 26) (by omega)
  unfold PyData.strOk wordS
  simp only [List.all_toArray, List.all_eq_true, decide_eq_true_eq]
  intro x hx
  unfold wordL at hx
  rcases List.mem_append.mp hx with hx | hx
  · exact h1 x (List.mem_of_mem_take hx)
  · rcases List.mem_append.mp hx with hx | hx
    · simp at hx; omega
    · exact h1 x (List.mem_of_mem_drop hx)
def freeI (c p : Int) : Int := if c % 2 = 0 then c / 2 % 10 ^ 60 else mixI (c / 2) p
theorem freeI_lo (c p : Int) : 0 ≤ freeI c p := by
  unfold freeI
  split
  · exact Int.emod_nonneg _ (by omega)
  · exact mixI_lo _ _
theorem free_ok (c p : Int) (h : List PO) (h1 : 0 ≤ p) (h2 : p ≤ 100000) : f_law_free [.int c, .int p] h = .ok (.v (.int (freeI c p))) h := by
  have m := mix_ok (c / 2) p h h1 h2
  unfold f_law_free runDef b_law_free freeI
  by_cases e : c % 2 = 0
  · simp [e]
  · simp [e, m]
def leafT (n : Int) (s : Nat) (ws : List Str) : Tm := if 0 < s ∧ n % 3 < 2 then .name (n / 3 % s).toNat else .sign (ws[(n / 3 % 2).toNat]?.getD ⟨#[]⟩) []
theorem leaf_ok (n : Int) (s : Nat) (ws : List Str) (h : List PO) (hn : 0 ≤ n) (hw : 2 ≤ ws.length) : f_law_leaf [.int n, .int s, .lst (ws.map .str)] h = .ok (.v (leafT n s ws).enc) h := by
  unfold f_law_leaf runDef b_law_leaf leafT
  by_cases e : 0 < s ∧ n % 3 < 2
  · have e2 : ((n / 3 % s).toNat : Int) = n / 3 % s := Int.toNat_of_nonneg (Int.emod_nonneg _ (by omega))
    rw [if_pos e, Tm.enc_name, e2]
    simp [e.1, e.2]
  · have e2 : ((n / 3 % 2).toNat : Int) = n / 3 % 2 := Int.toNat_of_nonneg (Int.emod_nonneg _ (by omega))
    have e3 : (n / 3 % 2).toNat < ws.length := by omega
    have e4 := atI_nat (ws.map PV.str) (n / 3 % 2).toNat
    rw [e2] at e4
    rw [if_neg e, Tm.enc_sign]
    by_cases e5 : 0 < s
    · have e6 : ¬ n % 3 < 2 := fun z => e ⟨e5, z⟩
      simp [e5, e6, e4, e3]
    · simp [e5, e4, e3]
end HF

end
section
set_option Elab.async false
set_option linter.all false
set_option maxRecDepth 20000
set_option autoImplicit false
namespace HF
open PySem PySem.Spec PyProof.Rows L2
def sizeB : Nat → Nat
  | 0 => 1
  | d + 1 => 1 + 3 * sizeB d
structure Drawn (S : Str → List Nat → Prop) (O : Str → Nat → Prop) (s d : Nat) (t : Tm) : Prop where
  scope : t.In s
  depth : t.depth ≤ d + 1
  size : t.size ≤ sizeB d
  ok : t.Ok S O
def holeV (p : Str × Nat) : PV := .tup [.str p.1, .int p.2]
def SW (ws : List Str) (w : Str) (l : List Nat) : Prop := w ∈ ws ∧ l.length ≤ 3 ∧ ∀ n ∈ l, n ≤ 2
def OW (hs : List (Str × Nat)) (w : Str) (l : Nat) : Prop := (w, l) ∈ hs
theorem leaf_drawn (n : Int) (s d : Nat) (ws : List Str) (hs : List (Str × Nat)) (hw : 2 ≤ ws.length) : Drawn (SW ws) (OW hs) s d (leafT n s ws) := by
  have hd : 1 ≤ sizeB d := by cases d <;> simp [sizeB]
  unfold leafT
  split
  · rename_i e
    have h1 := Int.emod_nonneg (n / 3) (b := (s : Int)) (by omega)
    have h2 := Int.emod_lt_of_pos (n / 3) (b := (s : Int)) (by omega)
    refine ⟨(Tm.In_name _ _).mpr (by omega), ?_, ?_, (Tm.Ok_name _).mpr trivial⟩
    · rw [Tm.depth_eq]; simp [Tm.inner, nmax]
    · rw [Tm.size_eq]; simpa [Tm.inner] using hd
  · have e3 : (n / 3 % 2).toNat < ws.length := by omega
    refine ⟨(Tm.In_sign _ _ _).mpr (by simp), ?_, ?_, (Tm.Ok_sign _ _).mpr ⟨⟨?_, by simp, by simp⟩, by simp⟩⟩
    · rw [Tm.depth_eq]; simp [Tm.inner, nmax]
    · rw [Tm.size_eq]; simpa [Tm.inner] using hd
    · simp [e3]
theorem sum_le_mul {b : Nat} : ∀ {l : List Nat}, (∀ x ∈ l, x ≤ b) → l.sum ≤ l.length * b
  | [], _ => by simp
  | x :: l, h => by
    have h1 := h x List.mem_cons_self
    have h2 := sum_le_mul (l := l) fun y hy => h y (List.mem_cons_of_mem _ hy)
    simp only [List.sum_cons, List.length_cons, Nat.add_mul]
    omega
theorem drawn_node {S : Str → List Nat → Prop} {O : Str → Nat → Prop} {s d : Nat} {t : Tm} (hl : t.inner.length ≤ 3) (hi : ∀ p ∈ t.inner, Drawn S O (s + p.1) d p.2) (hs : t.In s) (ho : t.Ok S O) : Drawn S O s (d + 1) t := by
  refine ⟨hs, ?_, ?_, ho⟩
  · rw [Tm.depth_eq]
    have : nmax (t.inner.map fun p => p.2.depth) ≤ d + 1 := nmax_le fun m hm => by
      obtain ⟨p, hp, rfl⟩ := List.mem_map.mp hm
      exact (hi p hp).depth
    omega
  · rw [Tm.size_eq]
    have h1 : (t.inner.map fun p => p.2.size).sum ≤ (t.inner.map fun p => p.2.size).length * sizeB d := sum_le_mul fun m hm => by
      obtain ⟨p, hp, rfl⟩ := List.mem_map.mp hm
      exact (hi p hp).size
    rw [List.length_map] at h1
    have h2 := Nat.mul_le_mul_right (sizeB d) hl
    simp only [sizeB]
    omega
theorem loop_hole (F : Fn) (cs0 ws hs d0 v w1 mm ww : PV) (n : Nat) (s d m : Nat) (h : List PO) (all : List PV) (S : Str → List Nat → Prop) (O : Str → Nat → Prop) (hm : m ≤ 3) (N : Nat)
    (hF : ∀ cs : List Int, cs.length ≤ N → ∃ (t : Tm) (rest : List Int), F [.lst (cs.map .int), .int s, ws, hs, .int d] h = .ok (.v (.tup [t.enc, .lst (rest.map .int)])) h ∧ rest.length ≤ cs.length ∧ Drawn S O s d t) (cs : List Int) (hc : cs.length ≤ N) :
    ∃ (acc : List Tm) (rest : List Int), forL (.v .non) all (.nm 11) (b_law_term_1 F) [11, 12] ((List.range m).map fun i : Nat => .int (i : Int)) ⟨[some (.v cs0), some (.v (.int s)), some (.v ws), some (.v hs), some (.v (.int (d + 1))), some (.v v), some (.v (.lst (cs.map .int))), some (.v w1), some (.v ww), some (.v mm), some (.own (.lst [])), none, none, none], h⟩
      = .nx ⟨[some (.v cs0), some (.v (.int s)), some (.v ws), some (.v hs), some (.v (.int (d + 1))), some (.v v), some (.v (.lst (rest.map .int))), some (.v w1), some (.v ww), some (.v mm), some (.own (.lst (acc.map Tm.enc))), none, none, none], h⟩ ∧ acc.length = m ∧ rest.length ≤ cs.length ∧ ∀ t ∈ acc, Drawn S O s d t := by
  refine forL_inv (e := .v .non) (k := fun i : Nat => PV.int (i : Int)) (I := fun ys M => ∃ (acc : List Tm) (rest : List Int), M = ⟨[some (.v cs0), some (.v (.int s)), some (.v ws), some (.v hs), some (.v (.int (d + 1))), some (.v v), some (.v (.lst (rest.map .int))), some (.v w1), some (.v ww), some (.v mm), some (.own (.lst (acc.map Tm.enc))), none, none, none], h⟩ ∧ acc.length + ys.length = m ∧ rest.length ≤ cs.length ∧ ∀ t ∈ acc, Drawn S O s d t)
    (Q := fun r => ∃ (acc : List Tm) (rest : List Int), r = .nx ⟨[some (.v cs0), some (.v (.int s)), some (.v ws), some (.v hs), some (.v (.int (d + 1))), some (.v v), some (.v (.lst (rest.map .int))), some (.v w1), some (.v ww), some (.v mm), some (.own (.lst (acc.map Tm.enc))), none, none, none], h⟩ ∧ acc.length = m ∧ rest.length ≤ cs.length ∧ ∀ t ∈ acc, Drawn S O s d t) ?_ ?_ _ _ ⟨[], cs, rfl, by simp, Nat.le_refl _, by simp⟩
  · rintro y ys M ⟨acc, rest, rfl, hl, hr, ht⟩
    obtain ⟨t, rest', e, hr', dr⟩ := hF rest (by omega)
    refine ⟨trivial, .inl ⟨_, ?_, acc ++ [t], rest', rfl, by simp at hl ⊢; omega, by omega, ?_⟩⟩
    · have g : acc.length < sizeLine := by rw [sizeLine_val]; simp at hl; omega
      unfold b_law_term_1
      simp [e, g]
    · intro x hx
      rcases List.mem_append.mp hx with hx | hx
      · exact ht x hx
      · simp at hx; subst hx; exact dr
  · rintro M ⟨acc, rest, rfl, hl, hr, ht⟩
    exact ⟨trivial, acc, rest, rfl, by simpa using hl, hr, ht⟩
theorem pick4 (x : Int) : ∃ k : Nat, k ≤ 2 ∧ atI [PV.int 0, .int 0, .int 1, .int 2] (x % 4) = some (.int k) := by
  have h1 := Int.emod_nonneg x (b := 4) (by omega)
  have h2 := Int.emod_lt_of_pos x (b := 4) (by omega)
  obtain ⟨n, hn⟩ := Int.eq_ofNat_of_zero_le h1
  rw [hn, atI_nat]
  have : n = 0 ∨ n = 1 ∨ n = 2 ∨ n = 3 := by omega
  rcases this with rfl | rfl | rfl | rfl
  · exact ⟨0, by omega, rfl⟩
  · exact ⟨0, by omega, rfl⟩
  · exact ⟨1, by omega, rfl⟩
  · exact ⟨2, by omega, rfl⟩
theorem loop_sign (F : Fn) (cs0 ws hs w1 : PV) (u : Int) (n : Nat) (s d m : Nat) (h : List PO) (all : List PV) (S : Str → List Nat → Prop) (O : Str → Nat → Prop) (hm : m ≤ 3) (N : Nat)
    (hF : ∀ (cs : List Int) (k : Nat), cs.length ≤ N → ∃ (t : Tm) (rest : List Int), F [.lst (cs.map .int), .int ((s : Int) + (k : Int)), ws, hs, .int d] h = .ok (.v (.tup [t.enc, .lst (rest.map .int)])) h ∧ rest.length ≤ cs.length ∧ Drawn S O (s + k) d t) (cs : List Int) (hc : cs.length ≤ N) :
    ∃ (acc : List (Nat × Tm)) (rest : List Int), forL (.v .non) all (.nm 11) (b_law_term_2 F) [9, 11, 12] ((List.range m).map fun i : Nat => .int (i : Int)) ⟨[some (.v cs0), some (.v (.int s)), some (.v ws), some (.v hs), some (.v (.int (d + 1))), some (.v (.int u)), some (.v (.lst (cs.map .int))), some (.v w1), none, none, none, none, none, some (.own (.lst []))], h⟩
      = .nx ⟨[some (.v cs0), some (.v (.int s)), some (.v ws), some (.v hs), some (.v (.int (d + 1))), some (.v (.int u)), some (.v (.lst (rest.map .int))), some (.v w1), none, none, none, none, none, some (.own (.lst (acc.map encP)))], h⟩ ∧ acc.length = m ∧ rest.length ≤ cs.length ∧ ∀ p ∈ acc, p.1 ≤ 2 ∧ Drawn S O (s + p.1) d p.2 := by
  refine forL_inv (e := .v .non) (k := fun i : Nat => PV.int (i : Int)) (I := fun ys M => ∃ (acc : List (Nat × Tm)) (rest : List Int), M = ⟨[some (.v cs0), some (.v (.int s)), some (.v ws), some (.v hs), some (.v (.int (d + 1))), some (.v (.int u)), some (.v (.lst (rest.map .int))), some (.v w1), none, none, none, none, none, some (.own (.lst (acc.map encP)))], h⟩ ∧ (∃ xs, xs ++ ys = List.range m ∧ acc.length = xs.length) ∧ rest.length ≤ cs.length ∧ ∀ p ∈ acc, p.1 ≤ 2 ∧ Drawn S O (s + p.1) d p.2)
    (Q := fun r => ∃ (acc : List (Nat × Tm)) (rest : List Int), r = .nx ⟨[some (.v cs0), some (.v (.int s)), some (.v ws), some (.v hs), some (.v (.int (d + 1))), some (.v (.int u)), some (.v (.lst (rest.map .int))), some (.v w1), none, none, none, none, none, some (.own (.lst (acc.map encP)))], h⟩ ∧ acc.length = m ∧ rest.length ≤ cs.length ∧ ∀ p ∈ acc, p.1 ≤ 2 ∧ Drawn S O (s + p.1) d p.2) ?_ ?_ _ _ ⟨[], cs, rfl, ⟨[], rfl, rfl⟩, Nat.le_refl _, by simp⟩
  · rintro y ys M ⟨acc, rest, rfl, ⟨xs, hxs, hl⟩, hr, ht⟩
    have hy : y < m := List.mem_range.mp (by rw [← hxs]; simp)
    have hlm : xs.length + (ys.length + 1) = m := by have := congrArg List.length hxs; simpa using this
    have g : acc.length < sizeLine := by rw [sizeLine_val]; omega
    obtain ⟨k, hk, e, hF'⟩ : ∃ k : Nat, k ≤ 2 ∧ (∃ q : Int, atI [PV.int 12, .int 48, .int 192] (y : Int) = some (.int q) ∧ 0 < q ∧ q < 1073741824 ∧ atI [PV.int 0, .int 0, .int 1, .int 2] (u / q % 4) = some (.int k)) ∧ True := by
      have : y = 0 ∨ y = 1 ∨ y = 2 := by omega
      rcases this with rfl | rfl | rfl
      · obtain ⟨k, hk, e⟩ := pick4 (u / 12); exact ⟨k, hk, ⟨12, rfl, by omega, by omega, e⟩, trivial⟩
      · obtain ⟨k, hk, e⟩ := pick4 (u / 48); exact ⟨k, hk, ⟨48, rfl, by omega, by omega, e⟩, trivial⟩
      · obtain ⟨k, hk, e⟩ := pick4 (u / 192); exact ⟨k, hk, ⟨192, rfl, by omega, by omega, e⟩, trivial⟩
    obtain ⟨q, e1, q1, q2, e2⟩ := e
    obtain ⟨t, rest', e, hr', dr⟩ := hF rest k (by omega)
    refine ⟨trivial, .inl ⟨_, ?_, acc ++ [(k, t)], rest', rfl, ⟨xs ++ [y], by simpa using hxs, by simp [hl]⟩, by omega, ?_⟩⟩
    · unfold b_law_term_2
      simp [e, g, e1, q1, q2, e2, encP]
    · intro x hx
      rcases List.mem_append.mp hx with hx | hx
      · exact ht x hx
      · simp at hx; subst hx; exact ⟨hk, dr⟩
  · rintro M ⟨acc, rest, rfl, ⟨xs, hxs, hl⟩, hr, ht⟩
    have hlm : xs.length = m := by have := congrArg List.length hxs; simpa using this
    exact ⟨trivial, acc, rest, rfl, by omega, hr, ht⟩
theorem term_ok (ws : List Str) (hs : List (Str × Nat)) (hw : 5 ≤ ws.length) (hw2 : ws.length ≤ 1000) (hh : hs.length ≤ 1000) (hh2 : ∀ p ∈ hs, p.2 ≤ 3) (hh3 : ∀ p ∈ hs, PyData.strOk p.1 = true) (h : List PO) : ∀ (n d : Nat) (cs : List Int) (s : Nat), d < n → cs.length ≤ 1000 →
    ∃ (t : Tm) (rest : List Int), f_law_term n [.lst (cs.map .int), .int s, .lst (ws.map .str), .lst (hs.map holeV), .int d] h = .ok (.v (.tup [t.enc, .lst (rest.map .int)])) h ∧ rest.length ≤ cs.length ∧ Drawn (SW ws) (OW hs) s d t
  | 0, d, cs, s, hd, _ => absurd hd (Nat.not_lt_zero _)
  | n + 1, d, cs, s, hd, hc => by
    have hz : sizeLine = 16777216 := sizeLine_val
    have fr := fun c p => free_ok c p h
    have lf := fun k (hk : 0 ≤ k) => leaf_ok k s ws h hk (by omega)
    have sh : SeqAt.shaped (.list (hs.map fun p => .tuple [.str p.1, .int p.2])) = true := shaped_list fun x hx => by
      obtain ⟨p, hp, rfl⟩ := List.mem_map.mp hx
      simp [PyData.canLay0, PyData.canLayAll0, PyData.depth, PyData.depthAll, hh3 p hp]
    have dh : toDs (hs.map holeV) = some (hs.map fun p => .tuple [.str p.1, .int p.2]) := toDs_map _ _ hs fun p hp => by simp [holeV, PV.toD, toDs]
    by_cases e0 : cs = [] ∨ d = 0
    · refine ⟨leafT (freeI (cs.take 1).sum 0) s ws, cs.drop 1, ?_, by simp, leaf_drawn _ _ _ _ _ (by omega)⟩
      have e1 : asInts ((cs.take 1).map .int) = some (cs.take 1) := asInts_map _
      unfold f_law_term runDef b_law_term
      have f1 := fr (cs.take 1).sum 0 (by omega) (by omega)
      have l1 := lf _ (freeI_lo (cs.take 1).sum 0)
      have ce : cs.isEmpty = decide (cs = []) := by cases cs <;> rfl
      by_cases ec : cs = []
      · subst ec
        simp at f1 l1
        simp [toDs, PV.toD, toDs_ints, shaped_ints, shaped_nil, eqv_nil, cutP_1_take, cutP_1_drop, f1, l1]
      · have ed : d = 0 := e0.resolve_left ec
        subst ed
        simp [toDs, PV.toD, toDs_ints, shaped_ints, shaped_nil, eqv_nil, ce, ec, cutP_1_take, cutP_1_drop, ← List.map_take, asInts_map, f1, l1]
    · have ce : cs.isEmpty = decide (cs = []) := by cases cs <;> rfl
      obtain ⟨c, cs', rfl⟩ : ∃ c cs', cs = c :: cs' := by
        cases cs with
        | nil => exact absurd (.inl rfl) e0
        | cons c cs' => exact ⟨c, cs', rfl⟩
      obtain ⟨d, rfl⟩ : ∃ e, d = e + 1 := by
        cases d with
        | zero => exact absurd (.inr rfl) e0
        | succ d => exact ⟨d, rfl⟩
      have f1 := fr c 1 (by omega) (by omega)
      have f2 := freeI_lo c 1
      have sc : SeqAt.shaped (.list (.int c :: cs'.map .int)) = true := shaped_ints (c :: cs')
      have hd0 : ¬ (d : Int) + 1 = 0 := by omega
      generalize hv : freeI c 1 = v at f1 f2
      by_cases ea : v % 8 < 2
      · refine ⟨leafT (v / 8) s ws, cs', ?_, by simp, leaf_drawn _ _ _ _ _ (by omega)⟩
        have l1 := lf (v / 8) (by omega)
        unfold f_law_term runDef b_law_term
        simp [toDs, PV.toD, toDs_ints, sc, shaped_nil, eqv_nil, ce, cutP_1_drop, f1, hd0, atI_0, ea, l1]
      · by_cases eb : v % 8 < 4 ∧ hs ≠ []
        · have hl : 0 < hs.length := List.length_pos_iff.mpr eb.2
          have j1 := Int.emod_nonneg (v / 8) (b := (hs.length : Int)) (by omega)
          have j2 := Int.emod_lt_of_pos (v / 8) (b := (hs.length : Int)) (by omega)
          obtain ⟨w, m, hj⟩ : ∃ w m, hs[(v / 8 % hs.length).toNat]? = some (w, m) := ⟨_, _, List.getElem?_eq_getElem (by omega)⟩
          have hm : (w, m) ∈ hs := List.mem_of_getElem? hj
          have hm3 : m ≤ 3 := hh2 _ hm
          have g1 : m < 4611686018427387904 := by omega
          have g2 : m ≤ sizeLine := by rw [sizeLine_val]; omega
          have hat : atI (hs.map holeV) (v / 8 % hs.length) = some (.tup [.str w, .int m]) := by
            have := atI_nat (hs.map holeV) (v / 8 % hs.length).toNat
            rw [Int.toNat_of_nonneg j1, List.getElem?_map, hj] at this
            exact this
          unfold f_law_term runDef b_law_term
          simp [hl, hat, g1, g2, toDs, PV.toD, toDs_ints, sc, shaped_nil, eqv_nil, ce, cutP_1_drop, f1, hd0, atI_0, ea, eb, dh, sh]
          obtain ⟨acc, rest, e, h1, h2, h3⟩ := loop_hole (f_law_term n) (.lst (.int c :: cs'.map .int)) (.lst (ws.map .str)) (.lst (hs.map holeV)) (.lst (hs.map holeV)) (.int (v / 8)) (.int (v % 8)) (.int m) (.str w) n s d m h ((List.range m).map fun i : Nat => .int (i : Int)) (SW ws) (OW hs) hm3 1000
            (fun cs2 hc2 => term_ok ws hs hw hw2 hh hh2 hh3 h n d cs2 s (by omega) hc2) cs' (by simp at hc; omega)
          rw [e]
          have g3 : acc.length ≤ sizeLine := by rw [sizeLine_val]; omega
          refine ⟨.hole w acc, rest, ?_, by omega, ?_⟩
          · simp [g3, Tm.enc_hole]
          · refine drawn_node (by simp [Tm.inner]; omega) (fun p hp => ?_) ((Tm.In_hole _ _ _).mpr fun t ht => (h3 t ht).scope) ((Tm.Ok_hole _ _).mpr ⟨by rw [h1]; exact hm, fun t ht => (h3 t ht).ok⟩)
            simp only [Tm.inner, List.mem_map] at hp
            obtain ⟨t, ht, rfl⟩ := hp
            exact h3 t ht
        · have eb' : v % 8 < 4 → hs = [] := fun z => Classical.byContradiction fun y => eb ⟨z, y⟩
          have m3 : (1 + v / 8 % 3).toNat ≤ 3 := by omega
          have g1 : (1 + v / 8 % 3).natAbs < 4611686018427387904 := by omega
          have g2 : 1 + v / 8 % 3 ≤ (sizeLine : Int) := by rw [sizeLine_val]; omega
          obtain ⟨acc, rest, e, h1, h2, h3⟩ := loop_sign (f_law_term n) (.lst (.int c :: cs'.map .int)) (.lst (ws.map .str)) (.lst (hs.map holeV)) (.int (v % 8)) (v / 8) n s d (1 + v / 8 % 3).toNat h ((List.range (1 + v / 8 % 3).toNat).map fun i : Nat => .int (i : Int)) (SW ws) (OW hs) m3 1000
            (fun cs2 k hc2 => term_ok ws hs hw hw2 hh hh2 hh3 h n d cs2 (s + k) (by omega) hc2) cs' (by simp at hc; omega)
          have g3 : acc.length ≤ sizeLine := by rw [sizeLine_val]; omega
          have h5 : (2 + v / 8 / 3 % 4 % 3).toNat < ws.length := by omega
          have h6 : ((2 + v / 8 / 3 % 4 % 3).toNat : Int) = 2 + v / 8 / 3 % 4 % 3 := by omega
          obtain ⟨w, hwat⟩ : ∃ w, ws[(2 + v / 8 / 3 % 4 % 3).toNat]? = some w := ⟨_, List.getElem?_eq_getElem h5⟩
          have hat : atI (ws.map PV.str) (2 + v / 8 / 3 % 4 % 3) = some (.str w) := by
            have := atI_nat (ws.map PV.str) (2 + v / 8 / 3 % 4 % 3).toNat
            rw [h6, List.getElem?_map, hwat] at this
            exact this
          refine ⟨.sign w acc, rest, ?_, by simp; omega, ?_⟩
          · unfold f_law_term runDef b_law_term
            by_cases e4 : v % 8 < 4
            · have e5 := eb' e4
              subst e5
              simp only [List.map_nil] at e
              simp [toDs, PV.toD, toDs_ints, sc, shaped_nil, eqv_nil, ce, cutP_1_drop, f1, hd0, atI_0, ea, e4, dh, sh, g1, g2]
              rw [e]
              simp [g3, hat, Tm.enc_sign]
            · simp [toDs, PV.toD, toDs_ints, sc, shaped_nil, eqv_nil, ce, cutP_1_drop, f1, hd0, atI_0, ea, e4, dh, sh, g1, g2]
              rw [e]
              simp [g3, hat, Tm.enc_sign]
          · refine drawn_node (by simp [Tm.inner]; omega) (fun p hp => (h3 p hp).2) ((Tm.In_sign _ _ _).mpr fun p hp => (h3 p hp).2.scope) ((Tm.Ok_sign _ _).mpr ⟨⟨List.mem_of_getElem? hwat, by simp; omega, fun k hk => ?_⟩, fun p hp => (h3 p hp).2.ok⟩)
            obtain ⟨p, hp, rfl⟩ := List.mem_map.mp hk
            exact (h3 p hp).1
end HF

end
section
set_option Elab.async false
set_option linter.all false
set_option maxRecDepth 20000
set_option autoImplicit false
/-! HN: equality of data that are told; terms that are changed at their names. -/
namespace HF
open PySem PySem.Spec PyProof.Rows L2
/-! ### equality -/
def Rf (d : PyData) : Prop := PyData.eqv d d = true
theorem eqvAll_rf : ∀ {ds : List PyData}, (∀ d ∈ ds, Rf d) → PyData.eqvAll ds ds = true
  | [], _ => rfl
  | d :: ds, h => by
    have h1 : PyData.eqv d d = true := h d List.mem_cons_self
    have h2 := eqvAll_rf (ds := ds) fun z hz => h z (List.mem_cons_of_mem _ hz)
    simp [PyData.eqvAll, h1, h2]
theorem rf_int (i : Int) : Rf (.int i) := by simp [Rf, PyData.eqv]
theorem rf_str (i : Str) : Rf (.str i) := by simp [Rf, PyData.eqv]
theorem rf_tup {ds : List PyData} (h : ∀ d ∈ ds, Rf d) : Rf (.tuple ds) := by simp only [Rf, PyData.eqv]; exact eqvAll_rf h
theorem rf_lst {ds : List PyData} (h : ∀ d ∈ ds, Rf d) : Rf (.list ds) := by simp only [Rf, PyData.eqv]; exact eqvAll_rf h
theorem Tm.rf (t : Tm) : Rf t.dat := by
  induction t using Tm.ind with
  | hn k => rw [Tm.dat_name]; exact rf_tup (by simp [rf_int, rf_str])
  | hs w ps ih =>
    rw [Tm.dat_sign]
    refine rf_tup fun d hd => ?_
    simp only [List.mem_cons, List.not_mem_nil, or_false] at hd
    rcases hd with rfl | rfl | rfl
    · exact rf_str _
    · exact rf_str _
    · refine rf_tup fun d hd => ?_
      obtain ⟨p, hp, rfl⟩ := List.mem_map.mp hd
      exact rf_tup (by simp [rf_int, ih p hp])
  | hh w ps ih =>
    rw [Tm.dat_hole]
    refine rf_tup fun d hd => ?_
    simp only [List.mem_cons, List.not_mem_nil, or_false] at hd
    rcases hd with rfl | rfl | rfl
    · exact rf_str _
    · exact rf_str _
    · refine rf_tup fun d hd => ?_
      obtain ⟨p, hp, rfl⟩ := List.mem_map.mp hd
      exact ih p hp
theorem Tm.enc_tup (t : Tm) : ∃ xs, t.enc = .tup xs := by
  cases t with
  | name k => exact ⟨_, Tm.enc_name k⟩
  | sign w ps => exact ⟨_, Tm.enc_sign w ps⟩
  | hole w ts => exact ⟨_, Tm.enc_hole w ts⟩
theorem Tm.enc_dat (t : Tm) : ∃ xs ds, t.enc = .tup xs ∧ toDs xs = some ds ∧ t.dat = .tuple ds := by
  obtain ⟨xs, h⟩ := t.enc_tup
  have := t.enc_toD
  rw [h] at this
  simp only [PV.toD] at this
  cases e : toDs xs with
  | none => rw [e] at this; cases this
  | some ds => rw [e] at this; exact ⟨xs, ds, h, e, (Option.some.inj this).symm⟩
theorem Tm.shaped {t : Tm} (h : t.Lay) (hd : t.depth ≤ 20) : SeqAt.shaped t.dat = true := by
  have tl := Tm.dat_ok h hd
  unfold SeqAt.shaped
  simp only [Bool.and_eq_true, decide_eq_true_eq]
  exact ⟨tl.1, by omega⟩
/-! ### changing names -/
/-- each name k, under b binders, gives way to g k b -/
def Tm.sub (g : Nat → Nat → Tm) : Tm → Nat → Tm := Tm.fold (fun k b => g k b) (fun w ps b => .sign w (ps.map fun p => (p.1, p.2 (b + p.1)))) (fun w ts b => .hole w (ts.map fun t => t b))
section
variable (g : Nat → Nat → Tm)
theorem Tm.sub_name (k b : Nat) : (Tm.name k).sub g b = g k b := by unfold Tm.sub; rw [Tm.fold_name]
theorem Tm.sub_sign (w : Str) (ps : List (Nat × Tm)) (b : Nat) : (Tm.sign w ps).sub g b = .sign w (ps.map fun p => (p.1, p.2.sub g (b + p.1))) := by
  unfold Tm.sub; rw [Tm.fold_sign, List.map_map]; rfl
theorem Tm.sub_hole (w : Str) (ts : List Tm) (b : Nat) : (Tm.hole w ts).sub g b = .hole w (ts.map fun t => t.sub g b) := by
  unfold Tm.sub; rw [Tm.fold_hole, List.map_map]; rfl
end

theorem Tm.In.mono {t : Tm} : ∀ {s s' : Nat}, t.In s → s ≤ s' → t.In s' := by
  induction t using Tm.ind with
  | hn k => intro s s' h l; rw [Tm.In_name] at h ⊢; omega
  | hs w ps ih => intro s s' h l; rw [Tm.In_sign] at h ⊢; exact fun p hp => ih p hp (h p hp) (by omega)
  | hh w ts ih => intro s s' h l; rw [Tm.In_hole] at h ⊢; exact fun p hp => ih p hp (h p hp) l
theorem lay_sign {w : Str} {ps : List (Nat × Tm)} (h1 : PyData.strOk w = true) (h : ∀ p ∈ ps, p.2.Lay) : (Tm.sign w ps).Lay := by
  intro v hv
  rw [Tm.words_sign] at hv
  rcases List.mem_cons.mp hv with rfl | hv
  · exact h1
  · obtain ⟨l, hl, hv⟩ := List.mem_flatten.mp hv
    obtain ⟨p, hp, rfl⟩ := List.mem_map.mp hl
    exact h p hp v hv
theorem lay_hole {w : Str} {ps : List Tm} (h1 : PyData.strOk w = true) (h : ∀ p ∈ ps, p.Lay) : (Tm.hole w ps).Lay := by
  intro v hv
  rw [Tm.words_hole] at hv
  rcases List.mem_cons.mp hv with rfl | hv
  · exact h1
  · obtain ⟨l, hl, hv⟩ := List.mem_flatten.mp hv
    obtain ⟨p, hp, rfl⟩ := List.mem_map.mp hl
    exact h p hp v hv
theorem lay_name (k : Nat) : (Tm.name k).Lay := by intro v hv; simp [Tm.words_name] at hv
theorem lay_word {w : Str} {ps : List (Nat × Tm)} (h : (Tm.sign w ps).Lay) : PyData.strOk w = true := h w (by rw [Tm.words_sign]; exact List.mem_cons_self)
theorem lay_wordh {w : Str} {ps : List Tm} (h : (Tm.hole w ps).Lay) : PyData.strOk w = true := h w (by rw [Tm.words_hole]; exact List.mem_cons_self)
theorem Tm.depth_name (k : Nat) : (Tm.name k).depth = 1 := by rw [Tm.depth_eq]; simp [Tm.inner, nmax]
theorem Tm.size_name (k : Nat) : (Tm.name k).size = 1 := by rw [Tm.size_eq]; simp [Tm.inner]
theorem Tm.depth_pos (t : Tm) : 1 ≤ t.depth := by rw [Tm.depth_eq]; omega
section
variable {g g' : Nat → Nat → Tm}
/-- facts of changed terms -/
theorem Tm.In_sub {s s' : Nat} (H : ∀ k b, k < s + b → (g k b).In (s' + b)) (t : Tm) : ∀ b, t.In (s + b) → (t.sub g b).In (s' + b) := by
  induction t using Tm.ind with
  | hn k => intro b h; rw [Tm.sub_name]; exact H k b ((Tm.In_name _ _).mp h)
  | hs w ps ih =>
    intro b h
    rw [Tm.sub_sign, Tm.In_sign]
    intro p hp
    obtain ⟨q, hq, rfl⟩ := List.mem_map.mp hp
    have := (Tm.In_sign _ _ _).mp h q hq
    rw [Nat.add_assoc] at this ⊢
    exact ih q hq _ this
  | hh w ts ih =>
    intro b h
    rw [Tm.sub_hole, Tm.In_hole]
    intro p hp
    obtain ⟨q, hq, rfl⟩ := List.mem_map.mp hp
    exact ih q hq _ ((Tm.In_hole _ _ _).mp h q hq)
theorem Tm.Lay_sub (H : ∀ k b, (g k b).Lay) (t : Tm) : ∀ b, t.Lay → (t.sub g b).Lay := by
  induction t using Tm.ind with
  | hn k => intro b _; rw [Tm.sub_name]; exact H k b
  | hs w ps ih =>
    intro b hl
    rw [Tm.sub_sign]
    refine lay_sign (lay_word hl) fun p hp => ?_
    obtain ⟨q, hq, rfl⟩ := List.mem_map.mp hp
    exact ih q hq _ (hl.inner (t := .sign w ps) hq)
  | hh w ps ih =>
    intro b hl
    rw [Tm.sub_hole]
    refine lay_hole (lay_wordh hl) fun p hp => ?_
    obtain ⟨q, hq, rfl⟩ := List.mem_map.mp hp
    exact ih q hq _ (hl.inner (t := .hole w ps) (p := (0, q)) (by simp [Tm.inner, hq]))
theorem nmax_le_add {α : Type} {f g : α → Nat} {D : Nat} : ∀ {ys : List α}, (∀ y ∈ ys, f y ≤ g y + D) → nmax (ys.map f) ≤ nmax (ys.map g) + D
  | [], _ => by simp [nmax]
  | y :: ys, h => by
    have h1 := h y List.mem_cons_self
    have h2 := nmax_le_add (f := f) (g := g) (D := D) (ys := ys) fun z hz => h z (List.mem_cons_of_mem _ hz)
    simp only [List.map_cons, nmax]
    omega
theorem Tm.depth_sub {D : Nat} (H : ∀ k b, (g k b).depth ≤ D + 1) (t : Tm) : ∀ b, (t.sub g b).depth ≤ t.depth + D := by
  induction t using Tm.ind with
  | hn k => intro b; rw [Tm.sub_name, Tm.depth_name]; have := H k b; omega
  | hs w ps ih =>
    intro b
    rw [Tm.sub_sign, Tm.depth_eq, Tm.depth_eq (.sign w ps)]
    simp only [Tm.inner, List.map_map]
    have : nmax (ps.map ((fun p : Nat × Tm => p.2.depth) ∘ fun p => (p.1, p.2.sub g (b + p.1)))) ≤ nmax (ps.map fun p => p.2.depth) + D := nmax_le_add fun p hp => ih p hp _
    omega
  | hh w ps ih =>
    intro b
    rw [Tm.sub_hole, Tm.depth_eq, Tm.depth_eq (.hole w ps)]
    simp only [Tm.inner, List.map_map]
    have : nmax (ps.map ((fun p : Nat × Tm => p.2.depth) ∘ (fun t => (0, t)) ∘ fun p : Tm => p.sub g b)) ≤ nmax (ps.map ((fun p : Nat × Tm => p.2.depth) ∘ fun t => (0, t))) + D := nmax_le_add fun p hp => ih p hp _
    omega
theorem sum_le_map {α : Type} {f g : α → Nat} {S : Nat} : ∀ {ys : List α}, (∀ y ∈ ys, f y ≤ g y * S) → (ys.map f).sum ≤ (ys.map g).sum * S
  | [], _ => by simp
  | y :: ys, h => by
    have h1 := h y List.mem_cons_self
    have h2 := sum_le_map (f := f) (g := g) (S := S) (ys := ys) fun z hz => h z (List.mem_cons_of_mem _ hz)
    simp only [List.map_cons, List.sum_cons, Nat.add_mul]
    omega
theorem Tm.size_sub {S : Nat} (hS : 1 ≤ S) (H : ∀ k b, (g k b).size ≤ S) (t : Tm) : ∀ b, (t.sub g b).size ≤ t.size * S := by
  induction t using Tm.ind with
  | hn k => intro b; rw [Tm.sub_name, Tm.size_name]; have := H k b; omega
  | hs w ps ih =>
    intro b
    rw [Tm.sub_sign, Tm.size_eq, Tm.size_eq (.sign w ps)]
    simp only [Tm.inner, List.map_map, Nat.add_mul]
    have : (ps.map ((fun p : Nat × Tm => p.2.size) ∘ fun p => (p.1, p.2.sub g (b + p.1)))).sum ≤ (ps.map fun p => p.2.size).sum * S := sum_le_map fun p hp => ih p hp _
    omega
  | hh w ps ih =>
    intro b
    rw [Tm.sub_hole, Tm.size_eq, Tm.size_eq (.hole w ps)]
    simp only [Tm.inner, List.map_map, Nat.add_mul]
    have : (ps.map ((fun p : Nat × Tm => p.2.size) ∘ (fun t => (0, t)) ∘ fun p : Tm => p.sub g b)).sum ≤ (ps.map ((fun p : Nat × Tm => p.2.size) ∘ fun t => (0, t))).sum * S := sum_le_map fun p hp => ih p hp _
    omega
/-- two ways of changing agree where they agree at the names that there are -/
theorem Tm.sub_congr {s : Nat} (H : ∀ k b, k < s + b → g k b = g' k b) (t : Tm) : ∀ b, t.In (s + b) → t.sub g b = t.sub g' b := by
  induction t using Tm.ind with
  | hn k => intro b h; rw [Tm.sub_name, Tm.sub_name]; exact H k b ((Tm.In_name _ _).mp h)
  | hs w ps ih =>
    intro b h
    rw [Tm.sub_sign, Tm.sub_sign]
    congr 1
    exact List.map_congr_left fun p hp => by rw [ih p hp _ (by have := (Tm.In_sign _ _ _).mp h p hp; rwa [Nat.add_assoc] at this)]
  | hh w ts ih =>
    intro b h
    rw [Tm.sub_hole, Tm.sub_hole]
    congr 1
    exact List.map_congr_left fun p hp => by rw [ih p hp _ ((Tm.In_hole _ _ _).mp h p hp)]
theorem Tm.sub_id (H : ∀ k b, g k b = .name k) (t : Tm) : ∀ b, t.sub g b = t := by
  induction t using Tm.ind with
  | hn k => intro b; rw [Tm.sub_name]; exact H k b
  | hs w ps ih =>
    intro b
    rw [Tm.sub_sign]
    congr 1
    conv => rhs; rw [← List.map_id ps]
    exact List.map_congr_left fun p hp => by rw [ih p hp]; rfl
  | hh w ps ih =>
    intro b
    rw [Tm.sub_hole]
    congr 1
    conv => rhs; rw [← List.map_id ps]
    exact List.map_congr_left fun p hp => by rw [ih p hp]; rfl
end
end HF

end
section
set_option Elab.async false
set_option linter.all false
set_option maxRecDepth 20000
set_option autoImplicit false
/-! HM2: more plain lemmas. -/
namespace HF
open PySem PySem.Spec PyProof.Rows L2
theorem asBls_fun {α : Type} (g : α → Bool) : ∀ ys : List α, asBls (ys.map fun y => .bl (g y)) = some (ys.map g)
  | [] => rfl
  | y :: ys => by simp [asBls_fun g ys]
theorem nodup_range_map {α : Type} (f : Nat → α) : ∀ m : Nat, (∀ i j, i < j → j < m → f i ≠ f j) → ((List.range m).map f).Nodup
  | 0, _ => by simp
  | m + 1, h => by
    rw [List.range_succ, List.map_append, List.nodup_append]
    refine ⟨nodup_range_map f m fun i j h1 h2 => h i j h1 (by omega), by simp, fun a ha b hb e => ?_⟩
    simp at hb; subst hb; subst e
    obtain ⟨i, hi, e⟩ := List.mem_map.mp ha
    exact h i m (List.mem_range.mp hi) (by omega) e
theorem nodup_len {α : Type} [DecidableEq α] : ∀ {l l' : List α}, l.Nodup → (∀ x ∈ l, x ∈ l') → l.length ≤ l'.length
  | [], l', _, _ => by simp
  | x :: l, l', nd, h => by
    simp only [List.nodup_cons] at nd
    have hx := h x List.mem_cons_self
    have := nodup_len (l := l) (l' := l'.erase x) nd.2 fun y hy => (List.mem_erase_of_ne (fun (e : y = x) => nd.1 (e ▸ hy))).mpr (h y (List.mem_cons_of_mem _ hy))
    rw [List.length_erase_of_mem hx] at this
    have := List.length_pos_of_mem hx
    simp only [List.length_cons]
    omega
theorem map_eraseIdx {α β : Type} (f : α → β) : ∀ (l : List α) (j : Nat), (l.map f).eraseIdx j = (l.eraseIdx j).map f
  | [], j => by simp
  | x :: l, 0 => by simp
  | x :: l, j + 1 => by simp [map_eraseIdx f l j]
theorem perm_eraseIdx {α : Type} : ∀ {l : List α} {j : Nat} (h : j < l.length), (l[j] :: l.eraseIdx j).Perm l
  | x :: l, 0, h => by simp
  | x :: l, j + 1, h => by
    have := perm_eraseIdx (l := l) (j := j) (by simpa using h)
    simp only [List.getElem_cons_succ, List.eraseIdx_cons_succ]
    exact (List.Perm.swap x _ _).trans (this.cons x)
theorem Tm.lt_inner {t : Tm} {p : Nat × Tm} (h : p ∈ t.inner) : sizeOf p.2 < sizeOf t := by
  cases t with
  | name k => simp [Tm.inner] at h
  | sign w ps => exact Tm.lt_sign h
  | hole w ts =>
    simp only [Tm.inner, List.mem_map] at h
    obtain ⟨t, ht, rfl⟩ := h
    exact Tm.lt_hole ht
theorem eqvAll_ints (ns : List Int) : PyData.eqvAll (ns.map .int) (ns.map .int) = true := by
  induction ns with
  | nil => rfl
  | cons n ns ih => simp [PyData.eqvAll, PyData.eqv, ih]
theorem shaped_tupI (ns : List Int) : SeqAt.shaped (.tuple (ns.map .int)) = true := by
  have := shaped_ints ns
  unfold SeqAt.shaped at this ⊢
  simpa [PyData.canLay0, PyData.depth] using this
end HF

end
section
set_option Elab.async false
set_option linter.all false
set_option maxRecDepth 20000
set_option autoImplicit false
/-! ST: a body's statements one by one. -/
namespace HF
open PySem PySem.Spec PyProof.Rows L2
theorem sq_nx {f g : Ss} {M M' : Mem} (h : f M = .nx M') : sSeq f g M = g M' := by simp only [sSeq, h, SR.sq]
theorem sq_ret {f g : Ss} {M M' : Mem} {e : EV} (h : f M = .ret e M') : sSeq f g M = .ret e M' := by simp only [sSeq, h, SR.sq]
theorem sq_exn {f g : Ss} {M M' : Mem} {e : Str} (h : f M = .exn e M') : sSeq f g M = .exn e M' := by simp only [sSeq, h, SR.sq]
theorem sq_cnt {f g : Ss} {M M' : Mem} (h : f M = .cnt M') : sSeq f g M = .cnt M' := by simp only [sSeq, h, SR.sq]
theorem turn_nx {pt : Pat} {b : Ss} {ws : List Nat} {x : PV} {M M2 : Mem} {r' : List (Option LV)} (h : asgPat pt x M.r = some r') (hb : b ⟨r', M.h⟩ = .nx M2) : forTurn pt b ws x M = .go (forget ws M2) := by simp only [forTurn, h, hb]
theorem turn_go {pt : Pat} {b : Ss} {ws : List Nat} {x : PV} {M M2 M3 : Mem} {r' : List (Option LV)} (h : asgPat pt x M.r = some r') (hb : b ⟨r', M.h⟩ = .nx M2) (hf : forget ws M2 = M3) : forTurn pt b ws x M = .go M3 := by rw [← hf]; exact turn_nx h hb
theorem turn_cnt {pt : Pat} {b : Ss} {ws : List Nat} {x : PV} {M M2 : Mem} {r' : List (Option LV)} (h : asgPat pt x M.r = some r') (hb : b ⟨r', M.h⟩ = .cnt M2) : forTurn pt b ws x M = .go (forget ws M2) := by simp only [forTurn, h, hb]
theorem turn_ret {pt : Pat} {b : Ss} {ws : List Nat} {x : PV} {M M2 : Mem} {r' : List (Option LV)} {e : EV} (h : asgPat pt x M.r = some r') (hb : b ⟨r', M.h⟩ = .ret e M2) : forTurn pt b ws x M = .out (.ret e M2) := by simp only [forTurn, h, hb]
theorem for_nx {f : Sm Src} {pt : Pat} {b : Ss} {ws : List Nat} {M M1 : Mem} {sr : Src} {r : SR} (h : f M = .ok sr M1) (hl : forL sr.1 sr.2 pt b ws sr.2 (forget ws M1) = r) : sForIn f pt b ws M = r := by simp only [sForIn, h, Res.st, hl]
theorem if_t {c : Sm Bool} {f g : Ss} {M M1 : Mem} (h : c M = .ok true M1) : sIf c f g M = f M1 := by simp only [sIf, h, Res.st, if_true]
theorem if_f {c : Sm Bool} {f g : Ss} {M M1 : Mem} (h : c M = .ok false M1) : sIf c f g M = g M1 := by simp [sIf, h, Res.st]
theorem eLc_at {s : Sm Src} {pt : Pat} {vs : List Nat} {t : Sm Bool} {f : Sm PV} {M M1 M2 : Mem} {sr : Src} {ps : List PV} (h : s M = .ok sr M1) (hl : lcL sr.1 sr.2 pt vs t f sr.2 [] (forget vs M1) = some (ps, M2)) : eLc s pt vs t f M = .ok (.fr (.lst ps)) M2 := by simp only [eLc, h, Res.bnd, hl]
theorem def_ret {n m : Nat} {fb : Ss} {args : List PV} {h : List PO} {e : PV} {M : Mem} (hn : args.length = n) (hb : fb ⟨args.map (fun p => some (LV.v p)) ++ List.replicate (m - n) none, h⟩ = .ret (.v e) M) : runDef n m fb args h = .ok (.v e) M.h := by simp only [runDef, hn, if_true, hb]
theorem def_fr {n m : Nat} {fb : Ss} {args : List PV} {h : List PO} {o : PO} {M : Mem} (hn : args.length = n) (hb : fb ⟨args.map (fun p => some (LV.v p)) ++ List.replicate (m - n) none, h⟩ = .ret (.fr o) M) : runDef n m fb args h = .ok (.fr o) M.h := by simp only [runDef, hn, if_true, hb]
theorem def_nx {n m : Nat} {fb : Ss} {args : List PV} {h : List PO} {M : Mem} (hn : args.length = n) (hb : fb ⟨args.map (fun p => some (LV.v p)) ++ List.replicate (m - n) none, h⟩ = .nx M) : runDef n m fb args h = .ok (.v .non) M.h := by simp only [runDef, hn, if_true, hb]
theorem def_exn {n m : Nat} {fb : Ss} {args : List PV} {h : List PO} {c : Str} {M : Mem} (hn : args.length = n) (hb : fb ⟨args.map (fun p => some (LV.v p)) ++ List.replicate (m - n) none, h⟩ = .exn c M) : runDef n m fb args h = .exn c M.h := by simp only [runDef, hn, if_true, hb]
theorem dr_v {n m : Nat} {fb : Ss} {args : List PV} {h h' : List PO} {e : PV} {r : List (Option LV)} (hn : args.length = n) (hb : fb ⟨args.map (fun p => some (LV.v p)) ++ List.replicate (m - n) none, h⟩ = .ret (.v e) ⟨r, h'⟩) : runDef n m fb args h = .ok (.v e) h' := def_ret hn hb
theorem dr_fr {n m : Nat} {fb : Ss} {args : List PV} {h h' : List PO} {o : PO} {r : List (Option LV)} (hn : args.length = n) (hb : fb ⟨args.map (fun p => some (LV.v p)) ++ List.replicate (m - n) none, h⟩ = .ret (.fr o) ⟨r, h'⟩) : runDef n m fb args h = .ok (.fr o) h' := def_fr hn hb
theorem dr_nx {n m : Nat} {fb : Ss} {args : List PV} {h h' : List PO} {r : List (Option LV)} (hn : args.length = n) (hb : fb ⟨args.map (fun p => some (LV.v p)) ++ List.replicate (m - n) none, h⟩ = .nx ⟨r, h'⟩) : runDef n m fb args h = .ok (.v .non) h' := def_nx hn hb
theorem dr_exn {n m : Nat} {fb : Ss} {args : List PV} {h h' : List PO} {c : Str} {r : List (Option LV)} (hn : args.length = n) (hb : fb ⟨args.map (fun p => some (LV.v p)) ++ List.replicate (m - n) none, h⟩ = .exn c ⟨r, h'⟩) : runDef n m fb args h = .exn c h' := def_exn hn hb
theorem if_tK {c : Sm Bool} {f g : Ss} {M : Mem} (h : c M = .ok true M) : sIf c f g M = f M := if_t h
theorem if_fK {c : Sm Bool} {f g : Ss} {M : Mem} (h : c M = .ok false M) : sIf c f g M = g M := if_f h
/-- a body's end, its slots not told -/
def EndAt (z : SR) (e : EV) (h : List PO) : Prop := ∃ r, z = .ret e ⟨r, h⟩
theorem xT {x y : SR} {e : EV} {h : List PO} (e1 : x = y) (h2 : EndAt y e h) : EndAt x e h := e1 ▸ h2
theorem xE {x : SR} {e : EV} {h : List PO} {r : List (Option LV)} (e1 : x = .ret e ⟨r, h⟩) : EndAt x e h := ⟨r, e1⟩
theorem dx_v {n m : Nat} {fb : Ss} {args : List PV} {h h' : List PO} {e : PV} (hn : args.length = n) (hb : EndAt (fb ⟨args.map (fun p => some (LV.v p)) ++ List.replicate (m - n) none, h⟩) (.v e) h') : runDef n m fb args h = .ok (.v e) h' := by
  obtain ⟨r, hb⟩ := hb
  exact dr_v hn hb
theorem dx_fr {n m : Nat} {fb : Ss} {args : List PV} {h h' : List PO} {e : PO} (hn : args.length = n) (hb : EndAt (fb ⟨args.map (fun p => some (LV.v p)) ++ List.replicate (m - n) none, h⟩) (.fr e) h') : runDef n m fb args h = .ok (.fr e) h' := by
  obtain ⟨r, hb⟩ := hb
  exact dr_fr hn hb
theorem bOr_ff {f g : Sm Bool} {M M1 M2 : Mem} (h : f M = .ok false M1) (h2 : g M1 = .ok false M2) : bOr f g M = .ok false M2 := by simp [bOr, h, h2, Res.bnd]
theorem bOr_t {f g : Sm Bool} {M M1 : Mem} (h : f M = .ok true M1) : bOr f g M = .ok true M1 := by simp [bOr, h, Res.bnd]
theorem bAnd_tt {f g : Sm Bool} {M M1 M2 : Mem} {b : Bool} (h : f M = .ok true M1) (h2 : g M1 = .ok b M2) : bAnd f g M = .ok b M2 := by simp [bAnd, h, h2, Res.bnd]
theorem bAnd_f {f g : Sm Bool} {M M1 : Mem} (h : f M = .ok false M1) : bAnd f g M = .ok false M1 := by simp [bAnd, h, Res.bnd]
theorem bNot_at {f : Sm Bool} {M M1 : Mem} {b : Bool} (h : f M = .ok b M1) : bNot f M = .ok (!b) M1 := by simp [bNot, h, Res.bnd]
theorem bVal_at {f : Sm EV} {M M1 : Mem} {b : Bool} (h : f M = .ok (.v (.bl b)) M1) : bVal f M = .ok b M1 := by simp [bVal, h, Res.bnd]
theorem b2_at {op : Cp2} {f g : Sm EV} {M M1 M2 : Mem} {x y : EV} {b : Bool} (hf : f M = .ok x M1) (hg : g M1 = .ok y M2) (h : op x y M2 = some b) : b2 op f g M = .ok b M2 := by simp only [b2, hf, hg, h, Res.bnd, optR]
theorem e2_at {op : Op2} {f g : Sm EV} {M M1 M2 : Mem} {x y z : EV} (hf : f M = .ok x M1) (hg : g M1 = .ok y M2) (h : op x y M2 = some z) : e2 op f g M = .ok z M2 := by simp only [e2, hf, hg, h, Res.bnd, optR]
theorem eB_at {f : Sm Bool} {M M1 : Mem} {b : Bool} (h : f M = .ok b M1) : eB f M = .ok (.v (.bl b)) M1 := by simp [eB, h, Res.bnd]
theorem eAnd_t {f g : Sm EV} {M M1 : Mem} (h : f M = .ok (.v (.bl true)) M1) : eAnd f g M = g M1 := by simp [eAnd, bVal, h, Res.bnd]
theorem eAnd_f {f g : Sm EV} {M M1 : Mem} (h : f M = .ok (.v (.bl false)) M1) : eAnd f g M = .ok (.v (.bl false)) M1 := by simp [eAnd, bVal, h, Res.bnd]
theorem ret_at {f : Sm EV} {M M1 : Mem} {p : PV} (h : f M = .ok (.v p) M1) : sRet f M = .ret (.v p) M1 := by simp [sRet, h, Res.st]
theorem eqS_tm (t : Tm) (y : EV) (M : Mem) : eqS (.v t.enc) y M = none := by
  obtain ⟨xs, e⟩ := t.enc_tup
  rw [e]; rfl
theorem evD_tm (t : Tm) (M : Mem) : evD M (.v t.enc) = some t.dat := by
  have := t.enc_toD
  obtain ⟨xs, e⟩ := t.enc_tup
  rw [e] at this ⊢
  exact this
theorem cpNe_d {x y : EV} {M : Mem} {d e : PyData} {b : Bool} (hs : eqS x y M = none) (hx : evD M x = some d) (hy : evD M y = some e) (sx : SeqAt.shaped d = true) (sy : SeqAt.shaped e = true) (h : PyData.eqv d e = b) : cpNe x y M = some (!b) := by
  simp only [cpNe, hs, eqD, hx, hy, sx, sy, h]; rfl
theorem cpEq_d {x y : EV} {M : Mem} {d e : PyData} {b : Bool} (hs : eqS x y M = none) (hx : evD M x = some d) (hy : evD M y = some e) (sx : SeqAt.shaped d = true) (sy : SeqAt.shaped e = true) (h : PyData.eqv d e = b) : cpEq x y M = some b := by
  simp only [cpEq, hs, eqD, hx, hy, sx, sy, h]; rfl
theorem cpNe_tm {t : Tm} {M : Mem} (hl : t.Lay) (hd : t.depth ≤ 20) : cpNe (.v t.enc) (.v t.enc) M = some false := cpNe_d (eqS_tm t _ M) (evD_tm t M) (evD_tm t M) (Tm.shaped hl hd) (Tm.shaped hl hd) (b := true) t.rf
theorem cpEq_tm {t : Tm} {M : Mem} (hl : t.Lay) (hd : t.depth ≤ 20) : cpEq (.v t.enc) (.v t.enc) M = some true := cpEq_d (eqS_tm t _ M) (evD_tm t M) (evD_tm t M) (Tm.shaped hl hd) (Tm.shaped hl hd) (b := true) t.rf
theorem tms_toDs (ts : List Tm) : toDs (ts.map Tm.enc) = some (ts.map Tm.dat) := toDs_map _ _ ts fun t _ => t.enc_toD
theorem tms_shaped {ts : List Tm} (h : ∀ t ∈ ts, t.Lay ∧ t.depth ≤ 20) : SeqAt.shaped (.list (ts.map Tm.dat)) = true := shaped_list fun d hd => by
  obtain ⟨t, ht, rfl⟩ := List.mem_map.mp hd
  have := Tm.dat_ok (h t ht).1 (h t ht).2
  exact ⟨this.1, by omega⟩
theorem tms_rf (ts : List Tm) : Rf (.list (ts.map Tm.dat)) := rf_lst fun d hd => by
  obtain ⟨t, _, rfl⟩ := List.mem_map.mp hd
  exact t.rf
end HF

end
section
set_option Elab.async false
set_option linter.all false
set_option maxRecDepth 20000
set_option autoImplicit false
namespace HF
open PySem PySem.Spec PyProof.Rows L2
/-! which terms stand straight -/
def namesOf : List Tm → Option (List Nat)
  | [] => some []
  | .name k :: r => (namesOf r).map (k :: ·)
  | _ => none
def told (ts : List Tm) : Option (List Nat) := (namesOf ts).bind fun ns => if ns.Nodup then some ns else none
def toldT : Tm → Option (List Nat)
  | .hole _ ts => told ts
  | _ => none
def optV : Option (List Nat) → PV
  | none => .non
  | some ns => .tup (ns.map fun n : Nat => .int (n : Int))
theorem namesOf_len : ∀ {ts : List Tm} {ns : List Nat}, namesOf ts = some ns → ns.length = ts.length
  | [], ns, h => by cases h; rfl
  | .name k :: r, ns, h => by
    cases e : namesOf r with
    | none => simp [namesOf, e] at h
    | some ms => simp [namesOf, e] at h; subst h; simp [namesOf_len e]
  | .sign _ _ :: r, ns, h => by cases h
  | .hole _ _ :: r, ns, h => by cases h
theorem intsIn (k : Nat) (ns : List Nat) : ((k : Int) ∈ ns.map fun n : Nat => (n : Int)) ↔ k ∈ ns := by
  constructor
  · intro h
    obtain ⟨n, hn, e⟩ := List.mem_map.mp h
    have : n = k := by omega
    exact this ▸ hn
  · exact fun h => List.mem_map_of_mem (f := fun n : Nat => (n : Int)) h
def accV (ns : List Nat) : List PV := (ns.map fun n : Nat => (n : Int)).map .int
theorem accV_snoc (ns : List Nat) (k : Nat) : accV (ns ++ [k]) = accV ns ++ [.int k] := by simp [accV]
theorem accV_len (ns : List Nat) : (accV ns).length = ns.length := by simp [accV]
theorem namesOf_app : ∀ (a b : List Tm), namesOf (a ++ b) = (namesOf a).bind fun x => (namesOf b).map (x ++ ·)
  | [], b => by simp [namesOf]
  | .name k :: r, b => by
    simp only [List.cons_append, namesOf, namesOf_app r b]
    cases namesOf r <;> simp [Function.comp_def]
  | .sign _ _ :: r, b => rfl
  | .hole _ _ :: r, b => rfl
theorem toldT_hole (w : Str) (ts : List Tm) : toldT (.hole w ts) = told ts := rfl
/-- the terms within a term, it ahead -/
def Tm.within (t : Tm) : List Tm := t :: (t.inner.attach.map fun p => Tm.within p.1.2).flatten
termination_by sizeOf t
decreasing_by exact Tm.lt_inner p.2
theorem Tm.within_eq (t : Tm) : t.within = t :: (t.inner.map fun p => p.2.within).flatten := by
  rw [Tm.within]; congr 2; exact List.attach_map_val (l := t.inner) (f := fun p => p.2.within)
theorem Tm.within_len (t : Tm) : t.within.length = t.size := by
  induction t using Tm.ind' with
  | h t ih =>
    rw [Tm.within_eq, Tm.size_eq, List.length_cons, List.length_flatten, List.map_map]
    have : t.inner.map (List.length ∘ fun p => p.2.within) = t.inner.map fun p => p.2.size := List.map_congr_left fun p hp => ih p hp
    rw [this]; omega
theorem Tm.within_size {t u : Tm} : u ∈ t.within → u.size ≤ t.size := by
  induction t using Tm.ind' with
  | h t ih =>
    intro hu
    rw [Tm.within_eq] at hu
    rcases List.mem_cons.mp hu with rfl | hu
    · exact Nat.le_refl _
    · obtain ⟨l, hl, hu⟩ := List.mem_flatten.mp hu
      obtain ⟨p, hp, rfl⟩ := List.mem_map.mp hl
      have := ih p hp hu
      have := Tm.size_lt hp
      omega
def isHole : Tm → Bool
  | .hole _ _ => true
  | _ => false
/-- all holes within stand straight -/
def strT (t : Tm) : Bool := t.within.all fun u => !isHole u || (toldT u).isSome
theorem strT_sign (w : Str) (ps : List (Nat × Tm)) : strT (.sign w ps) = ps.all fun p => strT p.2 := by
  unfold strT
  rw [Tm.within_eq]
  simp only [List.all_cons, isHole, Bool.not_false, Bool.true_or, Bool.true_and, Tm.inner, List.all_flatten, List.all_map]
  rfl
theorem namesOf_all : ∀ {ts : List Tm} {ns : List Nat}, namesOf ts = some ns → ∀ t ∈ ts, ∃ k, t = .name k
  | [], ns, h, t, ht => by simp at ht
  | .name k :: r, ns, h, t, ht => by
    cases e : namesOf r with
    | none => simp [namesOf, e] at h
    | some ms =>
      rcases List.mem_cons.mp ht with rfl | ht
      · exact ⟨k, rfl⟩
      · exact namesOf_all e t ht
  | .sign _ _ :: r, ns, h, _, _ => by cases h
  | .hole _ _ :: r, ns, h, _, _ => by cases h
theorem strT_hole (w : Str) (ts : List Tm) : strT (.hole w ts) = (told ts).isSome := by
  unfold strT
  rw [Tm.within_eq]
  simp only [List.all_cons, isHole, Bool.not_true, Bool.false_or, toldT_hole]
  cases e : told ts with
  | none => rfl
  | some ns =>
    simp only [Option.isSome_some, Bool.true_and, List.all_eq_true]
    intro u hu
    obtain ⟨l, hl, hu⟩ := List.mem_flatten.mp hu
    obtain ⟨p, hp, rfl⟩ := List.mem_map.mp hl
    simp only [Tm.inner, List.mem_map] at hp
    obtain ⟨t, ht, rfl⟩ := hp
    unfold told at e
    cases e2 : namesOf ts with
    | none => rw [e2] at e; cases e
    | some ms =>
      obtain ⟨k, rfl⟩ := namesOf_all e2 t ht
      rw [Tm.within_eq] at hu
      simp [Tm.inner] at hu
      subst hu
      rfl
def mN (t0 : PV) (ns : List Nat) (h : List PO) : Mem := ⟨[some (.v t0), some (.own (.lst (accV ns))), none], h⟩
def ToldEnd (t0 : PV) (h : List PO) (ts : List Tm) (z : SR) : Prop := match told ts with
  | some ns => z = .nx (mN t0 ns h)
  | none => ∃ r, z = .ret (.v .non) ⟨r, h⟩
theorem told_none_of {xs : List Tm} {y : Tm} {ys : List Tm} {ns : List Nat} (hx : namesOf xs = some ns) (h : ∀ k, y = .name k → k ∈ ns) : told (xs ++ y :: ys) = none := by
  unfold told
  rw [namesOf_app, hx]
  cases y with
  | name k =>
    have := h k rfl
    simp only [Option.bind_some, namesOf]
    cases namesOf ys with
    | none => rfl
    | some ms =>
      simp only [Option.map_some, Option.bind_some]
      rw [if_neg]
      intro nd
      exact (List.nodup_append.mp nd).2.2 k this k (by simp) rfl
  | sign w ps => rfl
  | hole w ps => rfl
theorem asInts_acc (ns : List Nat) : asInts (accV ns) = some (ns.map fun n : Nat => (n : Int)) := asInts_map _
theorem told_loop2 (ts : List Tm) (t0 : PV) (h : List PO) (all : List PV) (hl : ts.length ≤ 100000) : ToldEnd t0 h ts (forL (.v .non) all (.nm 2) b_told_names_1 [2] (ts.map Tm.enc) ⟨[some (.v t0), some (.own (.lst [])), none], h⟩) := by
  refine forL_inv (e := .v .non) (k := Tm.enc) (I := fun ys M => ∃ xs ns, xs ++ ys = ts ∧ namesOf xs = some ns ∧ ns.Nodup ∧ M = mN t0 ns h) (Q := ToldEnd t0 h ts) ?_ ?_ _ _ ⟨[], [], rfl, rfl, by simp, rfl⟩
  · rintro y ys M ⟨xs, ns, e, hx, nd, rfl⟩
    have hlen : xs.length + (ys.length + 1) = ts.length := by rw [← e]; simp
    have nl := namesOf_len hx
    refine ⟨trivial, ?_⟩
    have bad : (∀ k, y = .name k → k ∈ ns) → told ts = none := fun hk => by rw [← e]; exact told_none_of hx hk
    cases y with
    | name k =>
      by_cases hk : k ∈ ns
      · refine .inr ⟨.ret (.v .non) ⟨[some (.v t0), some (.own (.lst (accV ns))), some (.v (Tm.name k).enc)], h⟩, ?_, ?_⟩
        · have hk' : ∃ a, a ∈ ns ∧ (a : Int) = (k : Int) := ⟨k, hk, rfl⟩
          unfold b_told_names_1
          simp [mN, Tm.enc_name, atI_0, atI_1, asInts_acc, hk']
        · unfold ToldEnd
          rw [bad fun j hj => by cases hj; exact hk]
          exact ⟨_, rfl⟩
      · have g : (accV ns).length < sizeLine := by rw [accV_len, sizeLine_val]; omega
        refine .inl ⟨mN t0 (ns ++ [k]) h, ?_, xs ++ [.name k], ns ++ [k], by simpa using e, ?_, ?_, rfl⟩
        · have hk' : ¬ ∃ a, a ∈ ns ∧ (a : Int) = (k : Int) := by
            rintro ⟨a, ha, e⟩
            have : a = k := by omega
            exact hk (this ▸ ha)
          unfold b_told_names_1
          simp [mN, Tm.enc_name, atI_0, atI_1, asInts_acc, hk', g, accV_snoc]
        · rw [namesOf_app, hx]; rfl
        · exact List.nodup_append.mpr ⟨nd, by simp, fun a ha b hb => by simp at hb; subst hb; exact fun z => hk (z ▸ ha)⟩
    | sign w ps =>
      refine .inr ⟨.ret (.v .non) ⟨[some (.v t0), some (.own (.lst (accV ns))), some (.v (Tm.sign w ps).enc)], h⟩, ?_, ?_⟩
      · unfold b_told_names_1
        simp [mN, Tm.enc_sign, atI_0, atI_1, str_sn]
      · unfold ToldEnd
        rw [bad fun j hj => by cases hj]
        exact ⟨_, rfl⟩
    | hole w ps =>
      refine .inr ⟨.ret (.v .non) ⟨[some (.v t0), some (.own (.lst (accV ns))), some (.v (Tm.hole w ps).enc)], h⟩, ?_, ?_⟩
      · unfold b_told_names_1
        simp [mN, Tm.enc_hole, atI_0, atI_1, str_hn]
      · unfold ToldEnd
        rw [bad fun j hj => by cases hj]
        exact ⟨_, rfl⟩
  · rintro M ⟨xs, ns, e, hx, nd, rfl⟩
    simp at e; subst e
    refine ⟨trivial, ?_⟩
    unfold ToldEnd told
    rw [hx, Option.bind_some, if_pos nd]
theorem told_names_ok (t : Tm) (h : List PO) (hs : t.size ≤ 100000) : f_told_names [t.enc] h = .ok (.v (optV (toldT t))) h := by
  have il := t.inner_len
  cases t with
  | name k => unfold f_told_names runDef b_told_names; simp [Tm.enc_name, atI_0, str_nh, toldT, optV]
  | sign w ps => unfold f_told_names runDef b_told_names; simp [Tm.enc_sign, atI_0, str_sh, toldT, optV]
  | hole w ts =>
    simp [Tm.inner] at il
    have hl := told_loop2 ts (Tm.hole w ts).enc h (ts.map Tm.enc) (by omega)
    rw [toldT_hole]
    unfold ToldEnd at hl
    cases e : told ts with
    | none =>
      rw [e] at hl
      obtain ⟨r, hl⟩ := hl
      simp [Tm.enc_hole] at hl
      unfold f_told_names runDef b_told_names
      simp [Tm.enc_hole, atI_0, atI_2, hl, optV]
    | some ns =>
      rw [e] at hl
      have nl : ns.length ≤ 100000 := by
        unfold told at e
        cases e2 : namesOf ts with
        | none => rw [e2] at e; cases e
        | some ms =>
          rw [e2] at e
          simp only [Option.bind_some] at e
          split at e
          · cases e; rw [namesOf_len e2]; omega
          · cases e
      have g : (accV ns).length ≤ sizeLine := by rw [accV_len, sizeLine_val]; omega
      simp [Tm.enc_hole, mN] at hl
      unfold f_told_names runDef b_told_names
      simp [Tm.enc_hole, atI_0, atI_2, hl, optV, g]
      simp [accV]
theorem straight_ok : ∀ (n : Nat) (t : Tm) (h : List PO), t.depth ≤ n → t.size ≤ 100000 → f_is_straight n [t.enc] h = .ok (.v (.bl (strT t))) h
  | 0, t, h, hd, _ => by rw [Tm.depth_eq] at hd; omega
  | n + 1, t, h, hd, hs => by
    have il := t.inner_len
    unfold f_is_straight runDef b_is_straight
    cases t with
    | name k =>
      have : strT (.name k) = true := by unfold strT; rw [Tm.within_eq]; simp [isHole, Tm.inner]
      simp [Tm.enc_name, atI_0, this]
    | sign w ps =>
      simp [Tm.enc_sign, atI_0, atI_2, str_sn, strT_sign]
      rw [lcL_map0 _ encP (fun p => .bl (strT p.2))]
      · have := asBls_fun (fun p : Nat × Tm => strT p.2) ps
        simp only [List.nil_append]
        simp [this, Function.comp_def]
      · intro p hp
        have hp' : p ∈ (Tm.sign w ps).inner := hp
        have ih := straight_ok n p.2 h (by have := Tm.depth_lt hp'; omega) (by have := Tm.size_lt hp'; omega)
        simp [encP, ih]
    | hole w ts =>
      have tn := told_names_ok (.hole w ts) h hs
      simp [Tm.enc_hole, toldT_hole] at tn
      simp [Tm.enc_hole, atI_0, atI_2, str_hn, str_hs, strT_hole, tn]
      cases told ts <;> simp [optV]
theorem toldT_len {u : Tm} {ns : List Nat} (h : toldT u = some ns) : ns.length ≤ u.size := by
  cases u with
  | name k => cases h
  | sign w ps => cases h
  | hole w ts =>
    have il := (Tm.hole w ts).inner_len
    simp [Tm.inner] at il
    rw [toldT_hole] at h
    unfold told at h
    cases e2 : namesOf ts with
    | none => rw [e2] at h; cases h
    | some ms =>
      rw [e2] at h
      simp only [Option.bind_some] at h
      split at h
      · cases h; rw [namesOf_len e2]; omega
      · cases h
end HF

end
section
set_option Elab.async false
set_option linter.all false
set_option maxRecDepth 20000
set_option autoImplicit false
namespace HF
open PySem PySem.Spec PyProof.Rows L2
/-! SG: what _law_straight draws. -/
theorem namesOf_nms : ∀ ns : List Nat, namesOf (ns.map .name) = some ns
  | [] => rfl
  | k :: ns => by simp only [List.map_cons, namesOf, namesOf_nms ns]; rfl
theorem strT_nm (k : Nat) : strT (.name k) = true := by
  unfold strT
  rw [Tm.within_eq]
  simp [Tm.inner, isHole]
theorem strT_nms (w : Str) (ns : List Nat) (nd : ns.Nodup) : strT (.hole w (ns.map .name)) = true := by
  rw [strT_hole]
  unfold told
  rw [namesOf_nms]
  simp [nd]
theorem pick4s (x : Int) : ∃ k : Nat, k ≤ 2 ∧ atI [PV.int 0, .int 1, .int 1, .int 2] (x % 4) = some (.int k) := by
  have h1 := Int.emod_nonneg x (b := 4) (by omega)
  have h2 := Int.emod_lt_of_pos x (b := 4) (by omega)
  obtain ⟨n, hn⟩ := Int.eq_ofNat_of_zero_le h1
  rw [hn, atI_nat]
  have : n = 0 ∨ n = 1 ∨ n = 2 ∨ n = 3 := by omega
  rcases this with rfl | rfl | rfl | rfl
  · exact ⟨0, by omega, rfl⟩
  · exact ⟨1, by omega, rfl⟩
  · exact ⟨1, by omega, rfl⟩
  · exact ⟨2, by omega, rfl⟩
theorem ix_nat {j n : Nat} (h : j < n) : seqIndex? (j : Int) n = some j := by
  unfold seqIndex?
  simp
  omega
def intsN (ns : List Nat) : List PV := ns.map fun n : Nat => .int (n : Int)
def nmsN (ns : List Nat) : List PV := ns.map fun n : Nat => (Tm.name n).enc
theorem perm_erase {α : Type} {l : List α} {j : Nat} (h : j < l.length) : ([l[j]] ++ l.eraseIdx j).Perm l := by
  induction l generalizing j with
  | nil => simp at h
  | cons x l ih =>
    cases j with
    | zero => simp
    | succ j =>
      have := ih (j := j) (by simpa using h)
      simp only [List.eraseIdx_cons_succ, List.getElem_cons_succ]
      exact (List.Perm.swap _ _ _).trans (this.cons x)
def sM (cs s ws hs d : PV) (u : Int) (lf way sm w m : PV) (ns tl : List Nat) (h : List PO) : Mem :=
  ⟨[some (.v cs), some (.v s), some (.v ws), some (.v hs), some (.v d), some (.v (.int u)), some (.v lf), some (.v way), some (.v sm), none, some (.v w), some (.v m), some (.own (.lst (intsN ns))), some (.own (.lst (nmsN tl))), none, none, none], h⟩
theorem told_loop (F : Fn) (cs s ws hs d lf way sm w mm : PV) (h : List PO) (all : List PV) (u : Int) (hu : 0 ≤ u) (sN m : Nat) (hm : m ≤ sN) (hm3 : m ≤ 3) (hs1 : sN ≤ 1000) :
    ∃ (u' : Int) (ns tl : List Nat), forL (.v .non) all (.nm 14) (b_law_straight_1 F) [14, 15] ((List.range m).map fun i : Nat => .int (i : Int)) (sM cs s ws hs d u lf way sm w mm (List.range sN) [] h) = .nx (sM cs s ws hs d u' lf way sm w mm ns tl h) ∧ (tl ++ ns).Perm (List.range sN) ∧ tl.length = m := by
  refine forL_inv (e := .v .non) (k := fun i : Nat => PV.int (i : Int)) (I := fun ys M => ∃ (u' : Int) (ns tl : List Nat), M = sM cs s ws hs d u' lf way sm w mm ns tl h ∧ 0 ≤ u' ∧ (tl ++ ns).Perm (List.range sN) ∧ tl.length + ys.length = m)
    (Q := fun z => ∃ (u' : Int) (ns tl : List Nat), z = .nx (sM cs s ws hs d u' lf way sm w mm ns tl h) ∧ (tl ++ ns).Perm (List.range sN) ∧ tl.length = m) ?_ ?_ _ _ ⟨u, List.range sN, [], rfl, hu, by simp, by simp⟩
  · rintro y ys M ⟨u1, ns, tl, rfl, hu1, pe, hl⟩
    simp only [List.length_cons] at hl
    have pl := pe.length_eq
    rw [List.length_append, List.length_range] at pl
    have nl : 0 < ns.length := by omega
    have z1 : ns.length ≤ sizeLine := by rw [sizeLine_val]; omega
    have z2 : tl.length < sizeLine := by rw [sizeLine_val]; omega
    have z3 : (ns.length : Int) < 1073741824 := by omega
    have j1 := Int.emod_nonneg (u1 / 3 + 7 * (y : Int)) (b := (ns.length : Int)) (by omega)
    have j2 := Int.emod_lt_of_pos (u1 / 3 + 7 * (y : Int)) (b := (ns.length : Int)) (by omega)
    have dn : 0 ≤ (u1 / 3 + 7 * (y : Int)) / (ns.length : Int) := Int.ediv_nonneg (by omega) (by omega)
    obtain ⟨j, hj⟩ := Int.eq_ofNat_of_zero_le j1
    have jl : j < ns.length := by omega
    have e1 : ns[j]? = some ns[j] := List.getElem?_eq_getElem jl
    have e2 : (intsN ns).eraseIdx j = intsN (ns.eraseIdx j) := by unfold intsN; exact map_eraseIdx _ _ _
    have e3 : (intsN ns)[j]? = some (.int (ns[j] : Int)) := by unfold intsN; rw [List.getElem?_map, e1]; rfl
    have il : (intsN ns).length = ns.length := by simp [intsN]
    have tlE : nmsN tl ++ [(Tm.name ns[j]).enc] = nmsN (tl ++ [ns[j]]) := by simp [nmsN]
    have tll : (nmsN tl).length = tl.length := by simp [nmsN]
    have ix := ix_nat jl
    have z4 : j < 4611686018427387904 := by omega
    refine ⟨trivial, .inl ⟨sM cs s ws hs d ((u1 / 3 + 7 * (y : Int)) / (ns.length : Int)) lf way sm w mm (ns.eraseIdx j) (tl ++ [ns[j]]) h, ?_, _, _, _, rfl, dn, ?_, by simp; omega⟩⟩
    · unfold b_law_straight_1 sM
      rw [← tlE, ← e2]
      simp [il, tll, z1, z2, z3, nl, hj, ix, e3, z4, Tm.enc_name]
    · refine List.Perm.trans ?_ pe
      rw [List.append_assoc]
      exact (perm_erase jl).append_left tl
  · rintro M ⟨u1, ns, tl, rfl, hu1, pe, hl⟩
    exact ⟨trivial, u1, ns, tl, rfl, pe, by simpa using hl⟩
theorem sign_loop (F : Fn) (cs0 ws hs w1 sm : PV) (u : Int) (s d m : Nat) (h : List PO) (all : List PV) (S : Str → List Nat → Prop) (O : Str → Nat → Prop) (hm : m ≤ 3) (N : Nat)
    (hF : ∀ (cs : List Int) (k : Nat), cs.length ≤ N → k ≤ 2 → ∃ (t : Tm) (rest : List Int), F [.lst (cs.map .int), .int ((s : Int) + (k : Int)), ws, hs, .int d] h = .ok (.v (.tup [t.enc, .lst (rest.map .int)])) h ∧ rest.length ≤ cs.length ∧ Drawn S O (s + k) d t ∧ strT t = true) (cs : List Int) (hc : cs.length ≤ N) :
    ∃ (acc : List (Nat × Tm)) (rest : List Int), forL (.v .non) all (.nm 14) (b_law_straight_2 F) [9, 11, 14] ((List.range m).map fun i : Nat => .int (i : Int)) ⟨[some (.v cs0), some (.v (.int s)), some (.v ws), some (.v hs), some (.v (.int (d + 1))), some (.v (.int u)), some (.v (.lst (cs.map .int))), some (.v w1), some (.v sm), none, none, none, none, none, none, none, some (.own (.lst []))], h⟩
      = .nx ⟨[some (.v cs0), some (.v (.int s)), some (.v ws), some (.v hs), some (.v (.int (d + 1))), some (.v (.int u)), some (.v (.lst (rest.map .int))), some (.v w1), some (.v sm), none, none, none, none, none, none, none, some (.own (.lst (acc.map encP)))], h⟩ ∧ acc.length = m ∧ rest.length ≤ cs.length ∧ ∀ p ∈ acc, p.1 ≤ 2 ∧ Drawn S O (s + p.1) d p.2 ∧ strT p.2 = true := by
  refine forL_inv (e := .v .non) (k := fun i : Nat => PV.int (i : Int)) (I := fun ys M => ∃ (acc : List (Nat × Tm)) (rest : List Int), M = ⟨[some (.v cs0), some (.v (.int s)), some (.v ws), some (.v hs), some (.v (.int (d + 1))), some (.v (.int u)), some (.v (.lst (rest.map .int))), some (.v w1), some (.v sm), none, none, none, none, none, none, none, some (.own (.lst (acc.map encP)))], h⟩ ∧ (∃ xs, xs ++ ys = List.range m ∧ acc.length = xs.length) ∧ rest.length ≤ cs.length ∧ ∀ p ∈ acc, p.1 ≤ 2 ∧ Drawn S O (s + p.1) d p.2 ∧ strT p.2 = true)
    (Q := fun r => ∃ (acc : List (Nat × Tm)) (rest : List Int), r = .nx ⟨[some (.v cs0), some (.v (.int s)), some (.v ws), some (.v hs), some (.v (.int (d + 1))), some (.v (.int u)), some (.v (.lst (rest.map .int))), some (.v w1), some (.v sm), none, none, none, none, none, none, none, some (.own (.lst (acc.map encP)))], h⟩ ∧ acc.length = m ∧ rest.length ≤ cs.length ∧ ∀ p ∈ acc, p.1 ≤ 2 ∧ Drawn S O (s + p.1) d p.2 ∧ strT p.2 = true) ?_ ?_ _ _ ⟨[], cs, rfl, ⟨[], rfl, rfl⟩, Nat.le_refl _, by simp⟩
  · rintro y ys M ⟨acc, rest, rfl, ⟨xs, hxs, hl⟩, hr, ht⟩
    have hy : y < m := List.mem_range.mp (by rw [← hxs]; simp)
    have hlm : xs.length + (ys.length + 1) = m := by have := congrArg List.length hxs; simpa using this
    have g : acc.length < sizeLine := by rw [sizeLine_val]; omega
    obtain ⟨k, hk, q, k1, q1, q2, k2⟩ : ∃ k : Nat, k ≤ 2 ∧ ∃ q : Int, atI [PV.int 12, .int 48, .int 192] (y : Int) = some (.int q) ∧ 0 < q ∧ q < 1073741824 ∧ atI [PV.int 0, .int 1, .int 1, .int 2] (u / q % 4) = some (.int k) := by
      have : y = 0 ∨ y = 1 ∨ y = 2 := by omega
      rcases this with rfl | rfl | rfl
      · obtain ⟨k, hk, e⟩ := pick4s (u / 12); exact ⟨k, hk, 12, rfl, by omega, by omega, e⟩
      · obtain ⟨k, hk, e⟩ := pick4s (u / 48); exact ⟨k, hk, 48, rfl, by omega, by omega, e⟩
      · obtain ⟨k, hk, e⟩ := pick4s (u / 192); exact ⟨k, hk, 192, rfl, by omega, by omega, e⟩
    obtain ⟨t, rest', e, hr', dr⟩ := hF rest k (by omega) hk
    refine ⟨trivial, .inl ⟨_, ?_, acc ++ [(k, t)], rest', rfl, ⟨xs ++ [y], by simpa using hxs, by simp [hl]⟩, by omega, ?_⟩⟩
    · unfold b_law_straight_2
      simp [e, g, k1, q1, q2, k2, encP]
    · intro x hx
      rcases List.mem_append.mp hx with hx | hx
      · exact ht x hx
      · simp at hx; subst hx; exact ⟨hk, dr⟩
  · rintro M ⟨acc, rest, rfl, ⟨xs, hxs, hl⟩, hr, ht⟩
    have hlm : xs.length = m := by have := congrArg List.length hxs; simpa using this
    exact ⟨trivial, acc, rest, rfl, by omega, hr, ht⟩
end HF

end
section
set_option Elab.async false
set_option linter.all false
set_option maxRecDepth 20000
set_option maxHeartbeats 1000000
set_option autoImplicit false
namespace HF
open PySem PySem.Spec PyProof.Rows L2
/-! SG2: _law_straight. -/
theorem bOr_ft {f g : Sm Bool} {M M1 M2 : Mem} {b : Bool} (h : f M = .ok false M1) (h2 : g M1 = .ok b M2) : bOr f g M = .ok b M2 := by simp [bOr, h, h2, Res.bnd]
theorem filter_holes (s : Nat) : ∀ hs : List (Str × Nat), hs.filterMap (fun p => if p.2 ≤ s then some (holeV p) else none) = (hs.filter fun p => decide (p.2 ≤ s)).map holeV
  | [] => rfl
  | p :: l => by
    by_cases z : p.2 ≤ s
    · rw [List.filterMap_cons_some (by rw [if_pos z]), List.filter_cons_of_pos (by simpa using z), filter_holes s l]; rfl
    · rw [List.filterMap_cons_none (by rw [if_neg z]), List.filter_cons_of_neg (by simpa using z), filter_holes s l]
theorem emp_false {α : Type} {l : List α} (h : l ≠ []) : l.isEmpty = false := by
  cases l with
  | nil => exact absurd rfl h
  | cons _ _ => rfl
theorem x_if {c : Sm Bool} {f g k : Ss} {M M1 : Mem} {e : EV} {h : List PO} (hc : c M = .ok true M1) (he : EndAt (f M1) e h) : EndAt (sSeq (sIf c f g) k M) e h := by
  obtain ⟨r, he⟩ := he
  exact ⟨r, sq_ret ((if_t hc).trans he)⟩
theorem leaf_str (n : Int) (s : Nat) (ws : List Str) : strT (leafT n s ws) = true := by
  unfold leafT
  split
  · exact strT_nm _
  · rw [strT_sign]; rfl
theorem cp_emptyE (cs : List Int) (M : Mem) : cpEq (.v (.lst (cs.map .int))) (.fr (.lst [])) M = some cs.isEmpty :=
  cpEq_d (d := .list (cs.map .int)) (e := .list []) rfl (by show (toDs (cs.map .int)).map _ = _; rw [toDs_ints]; rfl) rfl (shaped_ints cs) shaped_nil (by rw [eqv_nil]; cases cs <;> rfl)
def datH (p : Str × Nat) : PyData := .tuple [.str p.1, .int p.2]
theorem shapedH {hs : List (Str × Nat)} (hw : ∀ p ∈ hs, PyData.strOk p.1 = true) : SeqAt.shaped (.list (hs.map datH)) = true := shaped_list fun d hd => by
  obtain ⟨p, hp, rfl⟩ := List.mem_map.mp hd
  exact ⟨by simp [datH, PyData.canLay0, PyData.canLayAll0, hw p hp], by simp [datH, PyData.depth, PyData.depthAll]⟩
theorem toDsH (hs : List (Str × Nat)) : toDs (hs.map holeV) = some (hs.map datH) := toDs_map holeV datH hs fun p _ => by simp [holeV, PV.toD, toDs, datH]
theorem cp_emptyH (hs : List (Str × Nat)) (hw : ∀ p ∈ hs, PyData.strOk p.1 = true) (M : Mem) : cpEq (.v (.lst (hs.map holeV))) (.fr (.lst [])) M = some hs.isEmpty :=
  cpEq_d (d := .list (hs.map datH)) (e := .list []) rfl (by show (toDs (hs.map holeV)).map _ = _; rw [toDsH]; rfl) rfl (shapedH hw) shaped_nil (by rw [eqv_nil]; cases hs <;> rfl)
theorem cn_emptyH (hs : List (Str × Nat)) (hw : ∀ p ∈ hs, PyData.strOk p.1 = true) (M : Mem) : cpNe (.v (.lst (hs.map holeV))) (.fr (.lst [])) M = some (!hs.isEmpty) :=
  cpNe_d (d := .list (hs.map datH)) (e := .list []) rfl (by show (toDs (hs.map holeV)).map _ = _; rw [toDsH]; rfl) rfl (shapedH hw) shaped_nil (by rw [eqv_nil]; cases hs <;> rfl)
theorem straight_drawn (ws : List Str) (hs : List (Str × Nat)) (hw : 5 ≤ ws.length) (hw2 : ws.length ≤ 1000) (hh : hs.length ≤ 1000) (hh2 : ∀ p ∈ hs, p.2 ≤ 3) (hh3 : ∀ p ∈ hs, PyData.strOk p.1 = true) (h : List PO) : ∀ (n d : Nat) (cs : List Int) (s : Nat), d < n → cs.length ≤ 1000 → s + 2 * d ≤ 900 →
    ∃ (t : Tm) (rest : List Int), f_law_straight n [.lst (cs.map .int), .int s, .lst (ws.map .str), .lst (hs.map holeV), .int d] h = .ok (.v (.tup [t.enc, .lst (rest.map .int)])) h ∧ rest.length ≤ cs.length ∧ Drawn (SW ws) (OW hs) s d t ∧ strT t = true
  | 0, d, cs, s, hd, _, _ => absurd hd (Nat.not_lt_zero _)
  | n + 1, d, cs, s, hd, hc, hsd => by
    have zs := sizeLine_val
    have fr := fun c p => free_ok c p h
    have lf := fun k (hk : 0 ≤ k) => leaf_ok k s ws h hk (by omega)
    obtain ⟨W, eW⟩ : ∃ W : PV, W = .lst (ws.map .str) := ⟨_, rfl⟩
    obtain ⟨HV, eH⟩ : ∃ W : PV, W = .lst (hs.map holeV) := ⟨_, rfl⟩
    obtain ⟨N, eN⟩ : ∃ N : Option LV → Option LV → Option LV → Option LV → Option LV → Option LV → Option LV → Option LV → Option LV → Mem, N = fun x5 x6 x7 x8 x10 x11 x12 x13 x16 => ⟨[some (.v (.lst (cs.map .int))), some (.v (.int s)), some (.v W), some (.v HV), some (.v (.int d)), x5, x6, x7, x8, none, x10, x11, x12, x13, none, none, x16], h⟩ := ⟨_, rfl⟩
    have c0 : (bOr (b2 cpEq (eVar 0) (eLst aNil)) (b2 cpEq (eVar 4) (eC (.int 0)))) (N none none none none none none none none none) = .ok (decide (cs = [] ∨ d = 0)) (N none none none none none none none none none) := by
      have a1 : (b2 cpEq (eVar 0) (eLst aNil)) (N none none none none none none none none none) = .ok cs.isEmpty (N none none none none none none none none none) := b2_at (x := .v (.lst (cs.map .int))) (y := .fr (.lst [])) (M1 := N none none none none none none none none none) (by rw [eN]; simp) (by rw [eN]; simp) (cp_emptyE cs _)
      by_cases ec : cs = []
      · rw [ec] at a1 ⊢
        have : decide (([] : List Int) = [] ∨ d = 0) = true := by simp
        rw [this]
        exact bOr_t a1
      · have ee : cs.isEmpty = false := emp_false ec
        rw [ee] at a1
        by_cases ed : d = 0
        · rw [decide_eq_true (.inr ed)]
          refine bOr_ft a1 ?_
          rw [eN]; simp [ed]
        · rw [decide_eq_false (by rintro (z | z) <;> contradiction)]
          refine bOr_ff a1 ?_
          rw [eN]; simp [ed]
    have start : ∀ {t : Tm} {rest : List Int}, EndAt ((b_law_straight (f_law_straight n)) (N none none none none none none none none none)) (.v (.tup [t.enc, .lst (rest.map .int)])) h → f_law_straight (n + 1) [.lst (cs.map .int), .int s, .lst (ws.map .str), .lst (hs.map holeV), .int d] h = .ok (.v (.tup [t.enc, .lst (rest.map .int)])) h := fun {t rest} he => by
      unfold f_law_straight
      refine dx_v rfl ?_
      rw [eN, eW, eH] at he
      exact he
    by_cases e0 : cs = [] ∨ d = 0
    · rw [decide_eq_true e0] at c0
      refine ⟨leafT (freeI (cs.take 1).sum 0) s ws, cs.drop 1, start ?_, by simp, leaf_drawn _ _ _ _ _ (by omega), leaf_str _ _ _⟩
      have f1 := fr (cs.take 1).sum 0 (by omega) (by omega)
      have l1 := lf _ (freeI_lo (cs.take 1).sum 0)
      have ai : asInts ((cs.take 1).map .int) = some (cs.take 1) := asInts_map _
      unfold b_law_straight
      refine xE (r := (N none none none none none none none none none).r) (sq_ret ((if_t c0).trans (ret_at (M1 := N none none none none none none none none none) (p := .tup [(leafT (freeI (cs.take 1).sum 0) s ws).enc, .lst ((cs.drop 1).map .int)]) ?_ |>.trans (by rw [eN]))))
      rw [eN, eW]
      simp [cutP_1_take, cutP_1_drop, ← List.map_take, ai, f1, l1]
    · rw [decide_eq_false e0] at c0
      obtain ⟨c, cs', ecs⟩ : ∃ c cs', cs = c :: cs' := by
        cases cs with
        | nil => exact absurd (.inl rfl) e0
        | cons c cs' => exact ⟨c, cs', rfl⟩
      obtain ⟨d, rfl⟩ : ∃ e, d = e + 1 := by
        cases d with
        | zero => exact absurd (.inr rfl) e0
        | succ d => exact ⟨d, rfl⟩
      have f1 := fr c 2 (by omega) (by omega)
      have f2 := freeI_lo c 2
      obtain ⟨v, hv⟩ : ∃ v, v = freeI c 2 := ⟨_, rfl⟩
      rw [← hv] at f1 f2
      obtain ⟨hs', ehs⟩ : ∃ l, l = hs.filter fun p => decide (p.2 ≤ s) := ⟨_, rfl⟩
      have hs'ok : ∀ p ∈ hs', PyData.strOk p.1 = true := fun p hp => hh3 p (by rw [ehs] at hp; exact (List.mem_filter.mp hp).1)
      have hs'l : hs'.length ≤ 1000 := by rw [ehs]; exact Nat.le_trans (List.length_filter_le _ _) hh
      obtain ⟨b5, eb5⟩ : ∃ b, b = some (LV.v (.int (v / 8))) := ⟨_, rfl⟩
      obtain ⟨b6, eb6⟩ : ∃ b, b = some (LV.v (.lst (cs'.map .int))) := ⟨_, rfl⟩
      obtain ⟨b7, eb7⟩ : ∃ b, b = some (LV.v (.int (v % 8))) := ⟨_, rfl⟩
      obtain ⟨b8, eb8⟩ : ∃ b, b = some (LV.v (.lst (hs'.map holeV))) := ⟨_, rfl⟩
      have pre : ∀ {e : EV} {G : Ss}, EndAt (G (N b5 b6 b7 b8 none none none none none)) e h → EndAt ((sSeq (sIf (bOr (b2 cpEq (eVar 0) (eLst aNil)) (b2 cpEq (eVar 4) (eC (.int 0)))) (sRet (eTup (aCons (toP (eCall f_law_leaf [] (aCons (toP (eCall f_law_free [] (aCons (toP (e1 opSum (eSl (eVar 0) oNo (oSome (eC (.int 1)))))) (aCons (toP (eC (.int 0))) aNil)))) (aCons (toP (eVar 1)) (aCons (toP (eVar 2)) aNil))))) (aCons (toP (eSl (eVar 0) (oSome (eC (.int 1))) oNo)) aNil)))) sNop) (sSeq (sSet 5 (toP (eCall f_law_free [] (aCons (toP (e2 opIx (eVar 0) (eC (.int 0)))) (aCons (toP (eC (.int 2))) aNil))))) (sSeq (sSet 6 (toP (eSl (eVar 0) (oSome (eC (.int 1))) oNo))) (sSeq (sSet 7 (toP (e2 opMod (eVar 5) (eC (.int 8))))) (sSeq (sSet 5 (toP (e2 opDiv (eVar 5) (eC (.int 8))))) (sSeq (sSet 8 (toP (eLc (srcOf (eVar 3)) (.nm 9) [9] (b2 cpLe (e2 opIx (eVar 9) (eC (.int 1))) (eVar 1)) (toP (eVar 9))))) G)))))) (N none none none none none none none none none)) e h := fun {e G} hG => by
        refine xT (sq_nx ((if_f c0).trans rfl)) ?_
        refine xT (sq_nx (M' := N (some (.v (.int v))) none none none none none none none none) (by rw [eN, ecs]; simp [atI_0, f1])) ?_
        refine xT (sq_nx (M' := N (some (.v (.int v))) b6 none none none none none none none) (by rw [eN, eb6, ecs]; simp [cutP_1_drop])) ?_
        refine xT (sq_nx (M' := N (some (.v (.int v))) b6 b7 none none none none none none) (by rw [eN, eb7]; simp)) ?_
        refine xT (sq_nx (M' := N b5 b6 b7 none none none none none none) (by rw [eN, eb5]; simp)) ?_
        have lc : ∀ all, lcL (.v .non) all (.nm 9) [9] (b2 cpLe (e2 opIx (eVar 9) (eC (.int 1))) (eVar 1)) (toP (eVar 9)) (hs.map holeV) [] (N b5 b6 b7 none none none none none none) = some ([] ++ hs.filterMap (fun p => if p.2 ≤ s then some (holeV p) else none), N b5 b6 b7 none none none none none none) := fun all =>
          lcL_fm0 _ holeV (fun p => if p.2 ≤ s then some (holeV p) else none) hs [] fun p hp => by
            by_cases z : p.2 ≤ s
            · have z2 : (p.2 : Int) ≤ (s : Int) := by omega
              rw [if_pos z, eN]
              simp [holeV, atI_1, z]
            · have z2 : ¬ (p.2 : Int) ≤ (s : Int) := by omega
              rw [if_neg z, eN]
              simp [holeV, atI_1, z]
        have fm : hs.filterMap (fun p => if p.2 ≤ s then some (holeV p) else none) = hs'.map holeV := by
          rw [ehs]; exact filter_holes s hs
        refine xT (sq_nx (M' := N b5 b6 b7 b8 none none none none none) ?_) hG
        have el := eLc_at (s := srcOf (eVar 3)) (pt := .nm 9) (vs := [9]) (t := b2 cpLe (e2 opIx (eVar 9) (eC (.int 1))) (eVar 1)) (f := toP (eVar 9)) (M := N b5 b6 b7 none none none none none none) (M1 := N b5 b6 b7 none none none none none none) (M2 := N b5 b6 b7 none none none none none none) (sr := (.v .non, hs.map holeV)) (ps := hs'.map holeV) (by rw [eN, eH]; simp) (Eq.trans (by rw [eN]; rfl) ((lc _).trans (by rw [fm]; rfl)))
        simp only [sSet, toP, el, Res.bnd, Res.st]
        rw [eN, eb8]
        simp
      have ce : (b2 cpEq (eVar 8) (eLst aNil)) (N b5 b6 b7 b8 none none none none none) = .ok hs'.isEmpty (N b5 b6 b7 b8 none none none none none) := b2_at (x := .v (.lst (hs'.map holeV))) (y := .fr (.lst [])) (M1 := N b5 b6 b7 b8 none none none none none) (by rw [eN, eb8]; simp) (by rw [eN]; simp) (cp_emptyH hs' hs'ok _)
      have cn : (b2 cpNe (eVar 8) (eLst aNil)) (N b5 b6 b7 b8 none none none none none) = .ok (!hs'.isEmpty) (N b5 b6 b7 b8 none none none none none) := b2_at (x := .v (.lst (hs'.map holeV))) (y := .fr (.lst [])) (M1 := N b5 b6 b7 b8 none none none none none) (by rw [eN, eb8]; simp) (by rw [eN]; simp) (cn_emptyH hs' hs'ok _)
      by_cases ea : v % 8 < 2 ∧ hs' = []
      · refine ⟨leafT (v / 8) s ws, cs', start ?_, by rw [ecs]; simp, leaf_drawn _ _ _ _ _ (by omega), leaf_str _ _ _⟩
        have l1 := lf (v / 8) (by omega)
        unfold b_law_straight
        refine pre ?_
        refine xE (r := (N b5 b6 b7 b8 none none none none none).r) (sq_ret ((if_t (M1 := N b5 b6 b7 b8 none none none none none) (bAnd_tt (M1 := N b5 b6 b7 b8 none none none none none) (by rw [eN, eb7]; simp [ea.1]) (ce.trans (by rw [ea.2]; rfl)))).trans (ret_at (M1 := N b5 b6 b7 b8 none none none none none) (p := .tup [(leafT (v / 8) s ws).enc, .lst (cs'.map .int)]) ?_ |>.trans (by rw [eN]))))
        rw [eN, eW, eb5, eb6]
        simp [l1]
      · have ca : (bAnd (b2 cpLt (eVar 7) (eC (.int 2))) (b2 cpEq (eVar 8) (eLst aNil))) (N b5 b6 b7 b8 none none none none none) = .ok false (N b5 b6 b7 b8 none none none none none) := by
          by_cases z : v % 8 < 2
          · have z2 : hs' ≠ [] := fun y => ea ⟨z, y⟩
            exact bAnd_tt (M1 := N b5 b6 b7 b8 none none none none none) (by rw [eN, eb7]; simp [z]) (ce.trans (by rw [emp_false z2]))
          · exact bAnd_f (M1 := N b5 b6 b7 b8 none none none none none) (by rw [eN, eb7]; simp [z])
        by_cases eb : v % 8 < 4 ∧ hs' ≠ []
        · have cb : (bAnd (b2 cpLt (eVar 7) (eC (.int 4))) (b2 cpNe (eVar 8) (eLst aNil))) (N b5 b6 b7 b8 none none none none none) = .ok true (N b5 b6 b7 b8 none none none none none) := by
            exact bAnd_tt (M1 := N b5 b6 b7 b8 none none none none none) (by rw [eN, eb7]; simp [eb.1]) (cn.trans (by rw [emp_false eb.2]; rfl))
          have hl : 0 < hs'.length := List.length_pos_iff.mpr eb.2
          have j1 := Int.emod_nonneg (v / 8) (b := (hs'.length : Int)) (by omega)
          have j2 := Int.emod_lt_of_pos (v / 8) (b := (hs'.length : Int)) (by omega)
          obtain ⟨w, m, hj⟩ : ∃ w m, hs'[(v / 8 % hs'.length).toNat]? = some (w, m) := ⟨_, _, List.getElem?_eq_getElem (by omega)⟩
          have hm' : (w, m) ∈ hs' := List.mem_of_getElem? hj
          rw [ehs] at hm'
          obtain ⟨hm, hms⟩ := List.mem_filter.mp hm'
          have hms : m ≤ s := by simpa using hms
          have hm3 : m ≤ 3 := hh2 _ hm
          have g1 : m < 4611686018427387904 := by omega
          have g2 : m ≤ sizeLine := by omega
          have hat : atI (hs'.map holeV) (v / 8 % hs'.length) = some (.tup [.str w, .int m]) := by
            have := atI_nat (hs'.map holeV) (v / 8 % hs'.length).toNat
            rw [Int.toNat_of_nonneg j1, List.getElem?_map, hj] at this
            exact this
          obtain ⟨u', ns, tl, e, pe, tll⟩ := told_loop (f_law_straight n) (.lst (cs.map .int)) (.int s) W HV (.int (d + 1 : Nat)) (.lst (cs'.map .int)) (.int (v % 8)) (.lst (hs'.map holeV)) (.str w) (.int m) h ((List.range m).map fun i : Nat => .int (i : Int)) (v / 8) (by omega) s m hms hm3 (by omega)
          have nd : tl.Nodup := by
            have := pe.nodup_iff.mpr List.nodup_range
            rw [List.nodup_append] at this
            exact this.1
          have tlt : ∀ x ∈ tl, x < s := fun x hx => List.mem_range.mp (pe.mem_iff.mp (List.mem_append_left _ hx))
          refine ⟨.hole w (tl.map .name), cs', start ?_, by rw [ecs]; simp, ?_, strT_nms w tl nd⟩
          · unfold b_law_straight
            refine pre ?_
            refine xT (sq_nx ((if_f ca).trans rfl)) ?_
            obtain ⟨b10, eb10⟩ : ∃ b, b = some (LV.v (.str w)) := ⟨_, rfl⟩
            obtain ⟨b11, eb11⟩ : ∃ b, b = some (LV.v (.int m)) := ⟨_, rfl⟩
            have hl2 : hs'.length ≤ sizeLine := by omega
            have hs16 : (s : Int) ≤ 16777216 := by omega
            have tz : tl.length ≤ sizeLine := by omega
            have st1 : sM (.lst (cs.map .int)) (.int s) W HV (.int (d + 1 : Nat)) (v / 8) (.lst (cs'.map .int)) (.int (v % 8)) (.lst (hs'.map holeV)) (.str w) (.int m) (List.range s) [] h = N b5 b6 b7 b8 b10 b11 (some (.own (.lst (intsN (List.range s))))) (some (.own (.lst []))) none := by rw [eN, eb5, eb6, eb7, eb8, eb10, eb11]; rfl
            rw [st1] at e
            refine x_if cb ?_
            refine xT (sq_nx (M' := N b5 b6 b7 b8 b10 b11 none none none) (by rw [eN, eb5, eb8, eb10, eb11]; simp [hl, hl2, hat])) ?_
            refine xT (sq_nx (M' := N b5 b6 b7 b8 b10 b11 (some (.own (.lst (intsN (List.range s))))) none none) (by rw [eN]; simp [hs16, intsN])) ?_
            refine xT (sq_nx (M' := N b5 b6 b7 b8 b10 b11 (some (.own (.lst (intsN (List.range s))))) (some (.own (.lst []))) none) (by rw [eN]; simp)) ?_
            refine xT (sq_nx (for_nx (M1 := N b5 b6 b7 b8 b10 b11 (some (.own (.lst (intsN (List.range s))))) (some (.own (.lst []))) none) (sr := (.v .non, (List.range m).map fun i : Nat => .int (i : Int))) (by rw [eN, eb11]; simp [g1, g2]) (Eq.trans (by rw [eN]; rfl) e))) ?_
            · have tE : (Tm.hole w (tl.map .name)).enc = .tup [.str "hole", .str w, .tup (nmsN tl)] := by rw [Tm.enc_hole, List.map_map]; rfl
              have tll2 : (nmsN tl).length ≤ sizeLine := by simp [nmsN]; omega
              rw [tE]
              unfold sM
              exact xE (by simp [tll2] <;> rfl)
          · refine drawn_node (by simp [Tm.inner]; omega) (fun p hp => ?_) ((Tm.In_hole _ _ _).mpr fun t ht => ?_) ((Tm.Ok_hole _ _).mpr ⟨by rw [List.length_map, tll]; exact hm, fun t ht => ?_⟩)
            · simp only [Tm.inner, List.mem_map] at hp
              obtain ⟨t, ⟨k, hk, rfl⟩, rfl⟩ := hp
              have hd1 : 1 ≤ sizeB d := by cases d <;> simp [sizeB]
              refine ⟨(Tm.In_name _ _).mpr (by have := tlt k hk; simp only; omega), by rw [Tm.depth_name]; omega, by rw [Tm.size_name]; exact hd1, (Tm.Ok_name _).mpr trivial⟩
            · obtain ⟨k, hk, rfl⟩ := List.mem_map.mp ht
              exact (Tm.In_name _ _).mpr (tlt k hk)
            · obtain ⟨k, hk, rfl⟩ := List.mem_map.mp ht
              exact (Tm.Ok_name _).mpr trivial
        · have cb : (bAnd (b2 cpLt (eVar 7) (eC (.int 4))) (b2 cpNe (eVar 8) (eLst aNil))) (N b5 b6 b7 b8 none none none none none) = .ok false (N b5 b6 b7 b8 none none none none none) := by
            by_cases z : v % 8 < 4
            · have z2 : hs' = [] := Classical.byContradiction fun y => eb ⟨z, y⟩
              refine bAnd_tt (M1 := N b5 b6 b7 b8 none none none none none) (by rw [eN, eb7]; simp [z]) (cn.trans ?_)
              rw [z2]; rfl
            · exact bAnd_f (M1 := N b5 b6 b7 b8 none none none none none) (by rw [eN, eb7]; simp [z])
          have g1 : (1 + v / 8 % 3).natAbs < 4611686018427387904 := by omega
          have g2 : 1 + v / 8 % 3 ≤ (sizeLine : Int) := by rw [sizeLine_val]; omega
          obtain ⟨acc, rest, e, h1, h2, h3⟩ := sign_loop (f_law_straight n) (.lst (cs.map .int)) W HV (.int (v % 8)) (.lst (hs'.map holeV)) (v / 8) s d (1 + v / 8 % 3).toNat h ((List.range (1 + v / 8 % 3).toNat).map fun i : Nat => .int (i : Int)) (SW ws) (OW hs) (by omega) 1000
            (fun cs2 k hc2 hk2 => by
              have := straight_drawn ws hs hw hw2 hh hh2 hh3 h n d cs2 (s + k) (by omega) hc2 (by omega)
              rw [← eW, ← eH] at this
              simpa using this) cs' (by rw [ecs] at hc; simp at hc; omega)
          have h5 : (2 + v / 8 / 3 % 4 % 3).toNat < ws.length := by omega
          have h6 : ((2 + v / 8 / 3 % 4 % 3).toNat : Int) = 2 + v / 8 / 3 % 4 % 3 := by omega
          obtain ⟨w, hwat⟩ : ∃ w, ws[(2 + v / 8 / 3 % 4 % 3).toNat]? = some w := ⟨_, List.getElem?_eq_getElem h5⟩
          have hat : atI (ws.map PV.str) (2 + v / 8 / 3 % 4 % 3) = some (.str w) := by
            have := atI_nat (ws.map PV.str) (2 + v / 8 / 3 % 4 % 3).toNat
            rw [h6, List.getElem?_map, hwat] at this
            exact this
          have az : acc.length ≤ sizeLine := by omega
          have wz : ws.length ≤ sizeLine := by omega
          refine ⟨.sign w acc, rest, start ?_, by rw [ecs]; simp; omega, ?_, ?_⟩
          · unfold b_law_straight
            refine pre ?_
            refine xT (sq_nx ((if_f ca).trans rfl)) ?_
            refine xT (sq_nx ((if_f cb).trans rfl)) ?_
            refine xT (sq_nx (M' := N b5 b6 b7 b8 none none none none (some (.own (.lst [])))) (by rw [eN]; simp)) ?_
            refine xT (sq_nx (M' := ⟨[some (.v (.lst (cs.map .int))), some (.v (.int s)), some (.v W), some (.v HV), some (.v (.int (d + 1))), some (.v (.int (v / 8))), some (.v (.lst (rest.map .int))), some (.v (.int (v % 8))), some (.v (.lst (hs'.map holeV))), none, none, none, none, none, none, none, some (.own (.lst (acc.map encP)))], h⟩) (for_nx (M1 := N b5 b6 b7 b8 none none none none (some (.own (.lst [])))) (sr := (.v .non, (List.range (1 + v / 8 % 3).toNat).map fun i : Nat => .int (i : Int))) (by rw [eN, eb5]; simp [g1, g2]) (Eq.trans (by rw [eN, eb5, eb6, eb7, eb8]; rfl) e))) ?_
            rw [eW]
            exact xE (by simp [hat, az, wz, Tm.enc_sign] <;> rfl)
          · refine drawn_node (by simp [Tm.inner]; omega) (fun p hp => (h3 p hp).2.1) ((Tm.In_sign _ _ _).mpr fun p hp => (h3 p hp).2.1.scope) ((Tm.Ok_sign _ _).mpr ⟨⟨List.mem_of_getElem? hwat, by simp; omega, fun k hk => ?_⟩, fun p hp => (h3 p hp).2.1.ok⟩)
            obtain ⟨p, hp, rfl⟩ := List.mem_map.mp hk
            exact (h3 p hp).1
          · rw [strT_sign, List.all_eq_true]
            exact fun p hp => (h3 p hp).2.2
end HF

end
section
set_option Elab.async false
set_option linter.all false
set_option maxRecDepth 20000
set_option autoImplicit false
namespace HF
open PySem PySem.Spec PyProof.Rows L2
/-! DX: dicts by words; fillings as lists. -/
def look : List (Str × Nat × Tm) → Str → Option (Nat × Tm)
  | [], _ => none
  | (v, mu) :: F, w => if v = w then some mu else look F w
def fK (F : List (Str × Nat × Tm)) : List Key := F.map fun p => .inr p.1
def fV (F : List (Str × Nat × Tm)) : List PV := F.map fun p => .tup [.int p.2.1, p.2.2.enc]
theorem inr_inj {v w : Str} : ((Sum.inr v : Key) = .inr w) = (v = w) := by apply propext; exact ⟨fun h => Sum.inr.inj h, fun h => by rw [h]⟩
theorem dGet_look : ∀ (F : List (Str × Nat × Tm)) (w : Str), dGet (fK F) (fV F) (.inr w) = (look F w).map fun mu => .tup [.int mu.1, mu.2.enc]
  | [], w => rfl
  | (v, mu) :: F, w => by
    have := dGet_look F w
    unfold fK fV at this ⊢
    simp only [List.map_cons, dGet, look, inr_inj]
    split
    · rfl
    · exact this
theorem any_look : ∀ (F : List (Str × Nat × Tm)) (w : Str), ((fK F).any fun q => decide (q = .inr w)) = (look F w).isSome
  | [], w => rfl
  | (v, mu) :: F, w => by
    have := any_look F w
    unfold fK at this ⊢
    simp only [List.map_cons, List.any_cons, look, inr_inj]
    by_cases e : v = w
    · simp [e]
    · simp only [e, decide_false, Bool.false_or, if_false]; exact this
theorem all_look (F : List (Str × Nat × Tm)) (w : Str) : (∀ x, x ∈ fK F → ¬ x = Sum.inr w) ↔ look F w = none := by
  have h := any_look F w
  constructor
  · intro H
    cases e : look F w with
    | none => rfl
    | some mu =>
      rw [e] at h
      obtain ⟨x, hx, ex⟩ := List.any_eq_true.mp h
      exact absurd (of_decide_eq_true ex) (H x hx)
  · intro e x hx ex
    rw [e] at h
    have : ((fK F).any fun q => decide (q = .inr w)) = true := List.any_eq_true.mpr ⟨x, hx, decide_eq_true ex⟩
    rw [this] at h; cases h
theorem look_mem : ∀ {F : List (Str × Nat × Tm)} {w : Str} {mu : Nat × Tm}, look F w = some mu → (w, mu) ∈ F
  | [], w, mu, h => by cases h
  | (v, nu) :: F, w, mu, h => by
    unfold look at h
    split at h
    · rename_i e; cases h; subst e; exact List.mem_cons_self
    · exact List.mem_cons_of_mem _ (look_mem h)
theorem dGet_nd {α : Type} (key : α → Str) (val : α → PV) : ∀ (l : List α), (l.map key).Nodup → ∀ p ∈ l, dGet (l.map fun p => .inr (key p)) (l.map val) (.inr (key p)) = some (val p)
  | [], _, p, hp => by simp at hp
  | q :: l, nd, p, hp => by
    simp only [List.map_cons, List.nodup_cons] at nd
    simp only [List.map_cons, dGet, inr_inj]
    rcases List.mem_cons.mp hp with rfl | hp
    · rw [if_pos rfl]
    · rw [if_neg fun e => nd.1 (by rw [e]; exact List.mem_map_of_mem hp)]
      exact dGet_nd key val l nd.2 p hp
theorem dGet_ndK {α : Type} (key : α → Key) (val : α → PV) : ∀ (l : List α), (l.map key).Nodup → ∀ p ∈ l, dGet (l.map key) (l.map val) (key p) = some (val p)
  | [], _, p, hp => by simp at hp
  | q :: l, nd, p, hp => by
    simp only [List.map_cons, List.nodup_cons] at nd
    simp only [List.map_cons, dGet]
    rcases List.mem_cons.mp hp with rfl | hp
    · rw [if_pos rfl]
    · rw [if_neg fun e => nd.1 (by rw [e]; exact List.mem_map_of_mem hp)]
      exact dGet_ndK key val l nd.2 p hp
theorem dGet_noK {α : Type} (key : α → Key) (val : α → PV) (k : Key) : ∀ (l : List α), (∀ p ∈ l, key p ≠ k) → dGet (l.map key) (l.map val) k = none
  | [], _ => rfl
  | q :: l, h => by
    simp only [List.map_cons, dGet]
    rw [if_neg (h q List.mem_cons_self)]
    exact dGet_noK key val k l fun p hp => h p (List.mem_cons_of_mem _ hp)
theorem dStore_newK {α : Type} (key : α → Key) (val : α → PV) (l : List α) (k : Key) (q : PV) (h : ∀ p ∈ l, key p ≠ k) : dStore (l.map key) (l.map val) k q = (l.map key ++ [k], l.map val ++ [q]) := by
  unfold dStore
  rw [if_neg]
  intro z
  rw [List.any_map] at z
  obtain ⟨p, hp, e⟩ := List.any_eq_true.mp z
  simp only [Function.comp, decide_eq_true_eq] at e
  exact h p hp e
theorem inl_inj {v w : Int} : ((Sum.inl v : Key) = .inl w) = (v = w) := by apply propext; exact ⟨fun h => Sum.inl.inj h, fun h => by rw [h]⟩
theorem dStore_new {α : Type} (key : α → Str) (val : α → PV) (l : List α) (w : Str) (q : PV) (h : ∀ p ∈ l, key p ≠ w) : dStore (l.map fun p => .inr (key p)) (l.map val) (.inr w) q = ((l.map fun p => .inr (key p)) ++ [.inr w], l.map val ++ [q]) := by
  unfold dStore
  rw [if_neg]
  intro z
  rw [List.any_map] at z
  obtain ⟨p, hp, e⟩ := List.any_eq_true.mp z
  simp only [Function.comp, decide_eq_true_eq, inr_inj] at e
  exact h p hp e
end HF

end
section
set_option Elab.async false
set_option linter.all false
set_option maxRecDepth 20000
set_option autoImplicit false
namespace HF
open PySem PySem.Spec PyProof.Rows L2
/-! IN: inner_terms. -/
theorem inner_ok (t : Tm) (h : List PO) (hz : t.size ≤ 100000) : f_inner_terms [t.enc] h = .ok (.fr (.lst (t.inner.map encP))) h := by
  have il := t.inner_len
  unfold f_inner_terms runDef b_inner_terms
  cases t with
  | name k => simp [Tm.enc_name, atI_0, Tm.inner]
  | sign w ps =>
    have g2 : ps.length ≤ sizeLine := by rw [sizeLine_val]; simp [Tm.inner] at il; omega
    simp [Tm.enc_sign, atI_0, atI_2, str_sn, Tm.inner, g2]
  | hole w ts =>
    have g2 : ts.length ≤ sizeLine := by rw [sizeLine_val]; simp [Tm.inner] at il; omega
    simp [Tm.enc_hole, atI_0, atI_2, str_hn, str_hs, Tm.inner, g2]
    rw [lcL_map0 _ Tm.enc (fun p => encP (0, p))]
    · simp [Function.comp_def]
    · intro p hp
      simp [encP]
end HF

end
section
set_option Elab.async false
set_option linter.all false
set_option maxRecDepth 20000
set_option autoImplicit false
namespace HF
open PySem PySem.Spec PyProof.Rows L2
/-! AL: holes_alike. -/
abbrev KN := List (Str × Nat)
def lookN : KN → Str → Option Nat
  | [], _ => none
  | (v, l) :: K, w => if v = w then some l else lookN K w
def kK (K : KN) : List Key := K.map fun p => .inr p.1
def kV' (K : KN) : List PV := K.map fun p => .int (p.2 : Nat)
def kO (K : KN) : PO := .dct (kK K) (kV' K)
theorem dGet_N : ∀ (K : KN) (w : Str), dGet (kK K) (kV' K) (.inr w) = (lookN K w).map fun l => .int (l : Nat)
  | [], w => rfl
  | (v, l) :: K, w => by
    have := dGet_N K w
    unfold kK kV' at this ⊢
    simp only [List.map_cons, dGet, lookN, inr_inj]
    split
    · rfl
    · exact this
theorem lookN_none {K : KN} {w : Str} : lookN K w = none ↔ w ∉ K.map (·.1) := by
  induction K with
  | nil => simp [lookN]
  | cons q l ih =>
    obtain ⟨v, q⟩ := q
    simp only [lookN, List.map_cons, List.mem_cons, not_or]
    by_cases e : v = w
    · subst e; simp
    · rw [if_neg e, ih]
      exact ⟨fun h => ⟨fun z => e z.symm, h⟩, fun h => h.2⟩
theorem lookN_mem : ∀ {K : KN} {w : Str} {l : Nat}, lookN K w = some l → (w, l) ∈ K
  | [], w, l, h => by cases h
  | (v, q) :: K, w, l, h => by
    unfold lookN at h
    split at h
    · rename_i e; cases h; subst e; exact List.mem_cons_self
    · exact List.mem_cons_of_mem _ (lookN_mem h)
theorem dStore_N {K : KN} {w : Str} (l : Nat) (h : lookN K w = none) : dStore (kK K) (kV' K) (.inr w) (.int (l : Nat)) = (kK (K ++ [(w, l)]), kV' (K ++ [(w, l)])) := by
  have hn := lookN_none.mp h
  have := dStore_new (fun p : Str × Nat => p.1) (fun p => .int (p.2 : Nat)) K w (.int (l : Nat)) (fun p hp e => hn (e ▸ List.mem_map_of_mem (f := fun p : Str × Nat => p.1) hp))
  unfold kK kV'
  rw [this, List.map_append, List.map_append]
  rfl
abbrev AF := KN → Bool × KN
def goA : List AF → AF
  | [], K => (true, K)
  | f :: fs, K => ((f K).1 && (goA fs (f K).2).1, (goA fs (f K).2).2)
def alikeA : Tm → AF := Tm.fold (fun _ K => (true, K)) (fun _ ps K => goA (ps.map (·.2)) K) (fun w ts K => match lookN K w with
  | none => goA ts (K ++ [(w, ts.length)])
  | some l => if l = ts.length then goA ts K else (false, K))
theorem alikeA_name (k : Nat) (K : KN) : alikeA (.name k) K = (true, K) := by unfold alikeA; rw [Tm.fold_name]
theorem alikeA_sign (w : Str) (ps : List (Nat × Tm)) (K : KN) : alikeA (.sign w ps) K = goA (ps.map fun p => alikeA p.2) K := by unfold alikeA; rw [Tm.fold_sign, List.map_map]; rfl
theorem alikeA_hole (w : Str) (ts : List Tm) (K : KN) : alikeA (.hole w ts) K = match lookN K w with
    | none => goA (ts.map alikeA) (K ++ [(w, ts.length)])
    | some l => if l = ts.length then goA (ts.map alikeA) K else (false, K) := by
  unfold alikeA
  rw [Tm.fold_hole]
  simp only [List.length_map]
theorem goA_len (fs : List AF) (ss : List Nat) (hl : fs.length = ss.length) (h : ∀ z ∈ fs.zip ss, ∀ K, (z.1 K).2.length ≤ K.length + z.2) : ∀ K, (goA fs K).2.length ≤ K.length + ss.sum := by
  induction fs generalizing ss with
  | nil => intro K; simp [goA]
  | cons f fs ih =>
    intro K
    cases ss with
    | nil => simp at hl
    | cons s ss =>
      have h1 := h (f, s) (by simp) K
      have h2 := ih ss (by simpa using hl) (fun z hz => h z (by simp [hz])) (f K).2
      simp only [goA, List.sum_cons]
      simp only at h1
      omega
theorem alikeA_len (t : Tm) : ∀ K, (alikeA t K).2.length ≤ K.length + t.size := by
  induction t using Tm.ind with
  | hn k => intro K; rw [alikeA_name]; simp
  | hs w ps ih =>
    intro K
    rw [alikeA_sign, Tm.size_eq]
    simp only [Tm.inner]
    have := goA_len (ps.map fun p => alikeA p.2) (ps.map fun p => p.2.size) (by simp) (fun z hz K => by
      rw [List.zip_map'] at hz
      obtain ⟨p, hp, rfl⟩ := List.mem_map.mp hz
      exact ih p hp K) K
    omega
  | hh w ts ih =>
    intro K
    rw [alikeA_hole, Tm.size_eq]
    simp only [Tm.inner, List.map_map]
    have key := goA_len (ts.map alikeA) (ts.map fun t => t.size) (by simp) (fun z hz K => by
      rw [List.zip_map'] at hz
      obtain ⟨p, hp, rfl⟩ := List.mem_map.mp hz
      exact ih p hp K)
    have e : (ts.map ((fun p : Nat × Tm => p.2.size) ∘ fun t => (0, t))) = ts.map fun t => t.size := rfl
    rw [e]
    split
    · have := key (K ++ [(w, ts.length)])
      simp at this ⊢; omega
    · split
      · have := key K; omega
      · simp only; omega
theorem lc_go {all : List PV} {pt : Pat} {vs : List Nat} {t : Sm Bool} {f : Sm PV} {x p : PV} {xs acc : List PV} {M M' : Mem} (h : lcStep pt vs t f x M = some (some p, M')) : lcL (.v .non) all pt vs t f (x :: xs) acc M = lcL (.v .non) all pt vs t f xs (acc ++ [p]) M' := by
  conv => lhs; unfold lcL
  rw [if_pos (show Chk (.v .non) all _ from trivial), h]
theorem setSame {h : List PO} {r : Nat} {o : PO} (hr : h[r]? = some o) : h.set r o = h := by
  have lt : r < h.length := (List.getElem?_eq_some_iff.mp hr).1
  refine List.ext_getElem? fun i => ?_
  by_cases e : r = i
  · subst e; rw [List.getElem?_set_self lt, hr]
  · rw [List.getElem?_set_ne e]
theorem alike_ok (q : Nat) : ∀ (n : Nat) (t : Tm) (K : KN) (h : List PO), t.depth ≤ n → t.size ≤ 1000 → K.length + t.size ≤ 5000 → h[q]? = some (kO K) →
    f_holes_alike n [t.enc, .ref q] h = .ok (.v (.bl (alikeA t K).1)) (h.set q (kO (alikeA t K).2))
  | 0, t, K, h, hd, _, _, _ => by rw [Tm.depth_eq] at hd; omega
  | n + 1, t, K, h, hd, hz, hl, hr => by
    have zs := sizeLine_val
    have il := t.inner_len
    -- the parts
    have parts : ∀ (e0 : PV) (all : List PV) (xs : List (Nat × Tm)) (K : KN) (h : List PO) (acc : List PV), (∀ p ∈ xs, p ∈ t.inner) → K.length + (xs.map fun p => p.2.size).sum ≤ 5000 → h[q]? = some (kO K) →
        ∃ bs : List Bool, lcL (.v .non) all (.tp [2, 3]) [2, 3] bYes (toP (eCall (f_holes_alike n) [] (aCons (toP (eVar 3)) (aCons (toP (eVar 1)) aNil)))) (xs.map encP) acc ⟨[some (.v e0), some (.v (.ref q)), none, none], h⟩
          = some (acc ++ bs.map .bl, ⟨[some (.v e0), some (.v (.ref q)), none, none], h.set q (kO (goA (xs.map fun p => alikeA p.2) K).2)⟩) ∧ bs.all id = (goA (xs.map fun p => alikeA p.2) K).1 := by
      intro e0 all xs
      induction xs with
      | nil =>
        intro K h acc _ _ hr
        refine ⟨[], ?_, rfl⟩
        simp only [List.map_nil, goA]
        rw [setSame hr, lcL_nil _ _ (show Chk (.v .non) all _ from trivial), List.append_nil]
      | cons x xs ih =>
        intro K h acc hx hs hr
        have lt : q < h.length := (List.getElem?_eq_some_iff.mp hr).1
        simp only [List.map_cons, List.sum_cons] at hs
        have mem := hx x List.mem_cons_self
        have d1 := Tm.depth_lt mem
        have s1 := Tm.size_lt mem
        have go := alike_ok q n x.2 K h (by omega) (by omega) (by omega) hr
        have l2 := alikeA_len x.2 K
        obtain ⟨bs, i1, i2⟩ := ih (alikeA x.2 K).2 (h.set q (kO (alikeA x.2 K).2)) (acc ++ [.bl (alikeA x.2 K).1]) (fun p hp => hx p (List.mem_cons_of_mem _ hp)) (by omega) (by rw [List.getElem?_set_self lt])
        rw [List.set_set] at i1
        refine ⟨(alikeA x.2 K).1 :: bs, ?_, ?_⟩
        · rw [List.map_cons, lc_go (p := .bl (alikeA x.2 K).1) (M' := ⟨[some (.v e0), some (.v (.ref q)), none, none], h.set q (kO (alikeA x.2 K).2)⟩) (by simp [encP, go]), i1]
          simp [goA]
        · simp only [List.map_cons, goA, List.all_cons, id, i2]
    have inn := inner_ok t
    unfold f_holes_alike
    refine dx_v rfl ?_
    unfold b_holes_alike
    have fin : ∀ (K : KN) (h : List PO), K.length + (t.inner.map fun p => p.2.size).sum ≤ 5000 → h[q]? = some (kO K) → EndAt ((sRet (e1 opAll (eLc (srcOf (eCall f_inner_terms [] (aCons (toP (eVar 0)) aNil))) (.tp [2, 3]) [2, 3] bYes (toP (eCall (f_holes_alike n) [] (aCons (toP (eVar 3)) (aCons (toP (eVar 1)) aNil))))))) ⟨[some (.v t.enc), some (.v (.ref q)), none, none], h⟩) (.v (.bl (goA (t.inner.map fun p => alikeA p.2) K).1)) (h.set q (kO (goA (t.inner.map fun p => alikeA p.2) K).2)) := fun K h hs hr => by
      obtain ⟨bs, l1, l2⟩ := parts t.enc (t.inner.map encP) t.inner K h [] (fun _ h => h) hs hr
      have io := inn h (by omega)
      have el := eLc_at (s := srcOf (eCall f_inner_terms [] (aCons (toP (eVar 0)) aNil))) (pt := .tp [2, 3]) (vs := [2, 3]) (t := bYes) (f := toP (eCall (f_holes_alike n) [] (aCons (toP (eVar 3)) (aCons (toP (eVar 1)) aNil)))) (M := ⟨[some (.v t.enc), some (.v (.ref q)), none, none], h⟩) (M1 := ⟨[some (.v t.enc), some (.v (.ref q)), none, none], h⟩) (sr := (.v .non, t.inner.map encP)) (by simp [io]) (Eq.trans rfl l1)
      have ab := asBls_fun (fun b : Bool => b) bs
      refine xE (r := [some (.v t.enc), some (.v (.ref q)), none, none]) (ret_at (M1 := ⟨[some (.v t.enc), some (.v (.ref q)), none, none], h.set q (kO (goA (t.inner.map fun p => alikeA p.2) K).2)⟩) (p := .bl (goA (t.inner.map fun p => alikeA p.2) K).1) ?_)
      simp only [List.map_id_fun', id, List.map_id'] at ab
      simp only [e1, el, Res.bnd, opAll, asLst, Option.bind_some, List.nil_append, ab, Option.map_some, optR, l2]
    have hsz := Tm.size_eq t
    cases t with
    | name k =>
      refine xT (sq_nx ((if_fK (by simp [Tm.enc_name, atI_0, str_nh])).trans rfl)) ?_
      have := fin K h (by omega) hr
      rw [alikeA_name]
      simpa [Tm.inner, goA] using this
    | sign w ps =>
      refine xT (sq_nx ((if_fK (by simp [Tm.enc_sign, atI_0, str_sh])).trans rfl)) ?_
      rw [alikeA_sign]
      exact fin K h (by omega) hr
    | hole w ts =>
      have lt : q < h.length := (List.getElem?_eq_some_iff.mp hr).1
      have tz : ts.length ≤ sizeLine := by simp [Tm.inner] at il; omega
      have kz : (kK K).length < sizeLine := by simp [kK]; omega
      have dg := dGet_N K w
      have eg : ((Tm.hole w ts).inner.map fun p => alikeA p.2) = ts.map alikeA := by simp [Tm.inner, Function.comp_def]
      rw [eg] at fin
      rw [alikeA_hole]
      cases e : lookN K w with
      | none =>
        rw [e] at dg
        have ds := dStore_N ts.length e
        simp only
        have f1 := fin (K ++ [(w, ts.length)]) (h.set q (kO (K ++ [(w, ts.length)]))) (by simp; omega) (by rw [List.getElem?_set_self lt])
        rw [List.set_set] at f1
        refine xT (sq_nx (M' := ⟨[some (.v (Tm.hole w ts).enc), some (.v (.ref q)), none, none], h.set q (kO (K ++ [(w, ts.length)]))⟩) ((if_f (M1 := ⟨[some (.v (Tm.hole w ts).enc), some (.v (.ref q)), none, none], h.set q (kO (K ++ [(w, ts.length)]))⟩) ?_).trans rfl)) f1
        unfold kO at hr ⊢
        simp at dg ds
        simp [Tm.enc_hole, atI_0, atI_1, atI_2, tz, hr, kz, dg, ds]
      | some l =>
        rw [e] at dg
        simp only
        by_cases c : l = ts.length
        · rw [if_pos c]
          refine xT (sq_nx (M' := ⟨[some (.v (Tm.hole w ts).enc), some (.v (.ref q)), none, none], h⟩) ((if_f (M1 := ⟨[some (.v (Tm.hole w ts).enc), some (.v (.ref q)), none, none], h⟩) ?_).trans rfl)) (fin K h (by omega) hr)
          unfold kO at hr
          simp at dg
          simp [Tm.enc_hole, atI_0, atI_1, atI_2, tz, hr, kz, dg, c]
        · rw [if_neg c]
          simp only
          rw [setSame hr]
          refine xE (sq_ret ((if_tK ?_).trans (ret_at rfl)))
          unfold kO at hr
          have c2 : ¬ ((l : Int) = ts.length) := by omega
          simp at dg
          simp [Tm.enc_hole, atI_0, atI_1, atI_2, tz, hr, kz, dg, c2]
end HF

end
section
set_option Elab.async false
set_option linter.all false
set_option maxRecDepth 20000
set_option autoImplicit false
/-! T0: changing names, composed. -/
namespace HF
open PySem PySem.Spec PyProof.Rows L2
section
variable {f g : Nat → Nat → Tm}
theorem Tm.sub_sub (t : Tm) : ∀ b, (t.sub g b).sub f b = t.sub (fun k b => (g k b).sub f b) b := by
  induction t using Tm.ind with
  | hn k => intro b; rw [Tm.sub_name, Tm.sub_name]
  | hs w ps ih =>
    intro b
    rw [Tm.sub_sign, Tm.sub_sign, Tm.sub_sign, List.map_map]
    congr 1
    exact List.map_congr_left fun p hp => by simp only [Function.comp, ih p hp]
  | hh w ps ih =>
    intro b
    rw [Tm.sub_hole, Tm.sub_hole, Tm.sub_hole, List.map_map]
    congr 1
    exact List.map_congr_left fun p hp => by simp only [Function.comp, ih p hp]
theorem Tm.sub_shift (c : Nat) (t : Tm) : ∀ b, t.sub f (b + c) = t.sub (fun k b => f k (b + c)) b := by
  induction t using Tm.ind with
  | hn k => intro b; rw [Tm.sub_name, Tm.sub_name]
  | hs w ps ih =>
    intro b
    rw [Tm.sub_sign, Tm.sub_sign]
    congr 1
    exact List.map_congr_left fun p hp => by rw [← ih p hp, Nat.add_right_comm]
  | hh w ps ih =>
    intro b
    rw [Tm.sub_hole, Tm.sub_hole]
    congr 1
    exact List.map_congr_left fun p hp => by rw [← ih p hp]
/-- changing twice, the second time so many names farther in -/
theorem Tm.sub_sub' (c : Nat) (t : Tm) (b : Nat) : (t.sub g b).sub f (b + c) = t.sub (fun k b => (g k b).sub f (b + c)) b := by
  rw [Tm.sub_shift, Tm.sub_sub]
  congr 1
  funext k b
  rw [Tm.sub_shift]
theorem Tm.sub_congr0 {s : Nat} {t : Tm} (hi : t.In s) (H : ∀ k b, k < s + b → f k b = g k b) : t.sub f 0 = t.sub g 0 := Tm.sub_congr (s := s) H t 0 hi
end
/-- names from i on stand m further on -/
def up (m i : Nat) (k b : Nat) : Tm := .name (if k < i + b then k else k + m)
/-- terms put in for names, the last one for the name 0 -/
def pin (some : List Tm) (k b : Nat) : Tm := if k < b then .name k else match some[some.length - 1 - (k - b)]? with
  | .some t => if k < b + some.length then t.sub (up b 0) 0 else .name (k - some.length)
  | .none => .name (k - some.length)
theorem pin_lt {some : List Tm} {k b : Nat} (h : k < b) : pin some k b = .name k := by unfold pin; rw [if_pos h]
theorem pin_at {some : List Tm} {i b : Nat} {t : Tm} (h : i < some.length) (e : some[some.length - 1 - i]? = .some t) : pin some (b + i) b = t.sub (up b 0) 0 := by
  unfold pin
  rw [if_neg (by omega), Nat.add_sub_cancel_left, e]
  simp only
  rw [if_pos (by omega)]
theorem pin_ge {some : List Tm} {k b : Nat} (h : b + some.length ≤ k) : pin some k b = .name (k - some.length) := by
  unfold pin
  rw [if_neg (by omega)]
  split
  · rw [if_neg (by omega)]
  · rfl
end HF

end
section
set_option Elab.async false
set_option linter.all false
set_option maxRecDepth 20000
set_option autoImplicit false
/-! IT: is_word, is_term. -/
namespace HF
open PySem PySem.Spec PyProof.Rows L2
def abcL : List Nat := (List.range 26).map (97 + ·)
theorem abc_eq : (Str.ofString "abcdefghijklmnopqrstuvwxyz").cps.toList = abcL := by decide +kernel
def wordB (w : Str) : Bool := decide (1 ≤ w.length) && decide (w.length ≤ 8) && w.cps.toList.all fun c => decide (c ∈ abcL)
theorem is_count_ok (i : Int) (h : List PO) : f_is_count [.int i] h = .ok (.v (.bl (decide (0 ≤ i)))) h := by
  unfold f_is_count runDef b_is_count
  simp [kitB_int_int, kitB_int_bool]
theorem is_word_ok (w : Str) (h : List PO) (hw : w.length ≤ 1000) : f_is_word [.str w] h = .ok (.v (.bl (wordB w))) h := by
  have g1 : w.length ≤ sizeLine := by rw [sizeLine_val]; omega
  unfold f_is_word
  by_cases e1 : 1 ≤ w.length
  · by_cases e2 : w.length ≤ 8
    · refine def_ret (M := ⟨[some (.v (.str w)), none], h⟩) rfl ?_
      unfold b_is_word
      have e1' : (1 : Int) ≤ w.length := by omega
      have e2' : (w.length : Int) ≤ 8 := by omega
      refine Eq.trans (sq_nx (by simp [kitB_str_str, g1, e1', e2'] <;> rfl)) ?_
      simp [g1]
      rw [lcL_map0 _ (fun c : Nat => PV.str ⟨#[c]⟩) (fun c : Nat => .bl (decide (c ∈ abcL)))]
      · simp [asBls_fun, wordB, e1, e2]
      · intro c hc
        simp [abc_eq]
    · refine def_ret (M := ⟨[some (.v (.str w)), none], h⟩) rfl ?_
      unfold b_is_word
      have e1' : (1 : Int) ≤ w.length := by omega
      have e2' : ¬ (w.length : Int) ≤ 8 := by omega
      refine Eq.trans (sq_ret (by simp [kitB_str_str, g1, e1', e2'] <;> exact ⟨rfl, rfl⟩)) ?_
      simp [wordB, e2]
  · refine def_ret (M := ⟨[some (.v (.str w)), none], h⟩) rfl ?_
    unfold b_is_word
    have e1' : ¬ (1 : Int) ≤ w.length := by omega
    refine Eq.trans (sq_ret (by simp [kitB_str_str, g1, e1'] <;> exact ⟨rfl, rfl⟩)) ?_
    simp [wordB, e1]
/-- whether a term lies in a scope -/
def Tm.inB : Tm → Nat → Bool := Tm.fold (fun k s => decide (k < s)) (fun _ ps s => ps.all fun p => p.2 (s + p.1)) (fun _ ts s => ts.all fun t => t s)
theorem Tm.inB_name (k s : Nat) : (Tm.name k).inB s = decide (k < s) := by unfold Tm.inB; rw [Tm.fold_name]
theorem Tm.inB_sign (w : Str) (ps : List (Nat × Tm)) (s : Nat) : (Tm.sign w ps).inB s = ps.all fun p => p.2.inB (s + p.1) := by
  unfold Tm.inB; rw [Tm.fold_sign, List.all_map]; rfl
theorem Tm.inB_hole (w : Str) (ts : List Tm) (s : Nat) : (Tm.hole w ts).inB s = ts.all fun t => t.inB s := by
  unfold Tm.inB; rw [Tm.fold_hole, List.all_map]; rfl
theorem Tm.inB_iff (t : Tm) : ∀ s, t.inB s = true ↔ t.In s := by
  induction t using Tm.ind with
  | hn k => intro s; rw [Tm.inB_name, Tm.In_name, decide_eq_true_eq]
  | hs w ps ih => intro s; rw [Tm.inB_sign, Tm.In_sign, List.all_eq_true]; exact ⟨fun h p hp => (ih p hp _).mp (h p hp), fun h p hp => (ih p hp _).mpr (h p hp)⟩
  | hh w ts ih => intro s; rw [Tm.inB_hole, Tm.In_hole, List.all_eq_true]; exact ⟨fun h p hp => (ih p hp _).mp (h p hp), fun h p hp => (ih p hp _).mpr (h p hp)⟩
theorem Tm.inB_of {t : Tm} {s : Nat} (h : t.In s) : t.inB s = true := (t.inB_iff s).mpr h
/-- words that can be told -/
def WdOk (w : Str) : Prop := w.length ≤ 8 ∧ wordB w = true
abbrev Tm.Wd (t : Tm) : Prop := t.Ok (fun w _ => WdOk w) (fun w _ => WdOk w)
theorem is_term_ok (h : List PO) : ∀ (m : Nat) (t : Tm) (s n : Nat), t.depth ≤ m → 2 * m ≤ n + 1 → t.size ≤ 100000 → t.Wd → f_is_term n [t.enc, .int s] h = .ok (.v (.bl (t.inB s))) h
  | 0, t, s, n, hd, _, _, _ => by rw [Tm.depth_eq] at hd; omega
  | m + 1, t, s, n, hd, hn, hs, hw => by
    have zl : sizeLine = 16777216 := sizeLine_val
    have il := t.inner_len
    obtain ⟨n, rfl⟩ : ∃ k, n = k + 1 := ⟨n - 1, by omega⟩
    have z2 : 2 ≤ sizeLine := by omega
    have z3 : 3 ≤ sizeLine := by omega
    cases t with
    | name k =>
      refine def_ret (M := ⟨[some (.v (Tm.name k).enc), some (.v (.int s)), none, none], h⟩) rfl ?_
      unfold b_is_term
      rw [Tm.enc_name]
      refine Eq.trans (sq_nx (by simp [kitB_tuple_tuple, kitB_str_str, atI_0, z2] <;> rfl)) ?_
      refine Eq.trans (sq_ret (by simp [atI_0, atI_1, z2, is_count_ok] <;> exact ⟨rfl, rfl⟩)) ?_
      simp [Tm.inB_name]
    | sign w ps =>
      have hw' := (Tm.Ok_sign w ps).mp hw
      have e2 : ps.length ≤ sizeLine := by simp [Tm.inner] at il; omega
      have wk := is_word_ok w h (by have := hw'.1.1; omega)
      rw [hw'.1.2] at wk
      have ih : ∀ p ∈ ps, f_is_part n [encP p, .int s] h = .ok (.v (.bl (p.2.inB (s + p.1)))) h := fun p hp => by
        have hdp := Tm.depth_lt (t := .sign w ps) hp
        have hdz := p.2.depth_pos
        obtain ⟨n, rfl⟩ : ∃ k, n = k + 1 := ⟨n - 1, by omega⟩
        have := is_term_ok h m p.2 (s + p.1) n (by omega) (by omega) (by have := Tm.size_lt (t := .sign w ps) hp; omega) (hw'.2 p hp)
        refine def_ret (M := ⟨[some (.v (encP p)), some (.v (.int s))], h⟩) rfl ?_
        unfold b_is_part encP
        refine Eq.trans (sq_nx (by simp [kitB_tuple_tuple, atI_0, z2, is_count_ok] <;> rfl)) ?_
        simp at this
        simp [atI_0, atI_1, this]
      refine def_ret (M := ⟨[some (.v (Tm.sign w ps).enc), some (.v (.int s)), none, none], h⟩) rfl ?_
      unfold b_is_term
      rw [Tm.enc_sign]
      refine Eq.trans (sq_nx (by simp [kitB_tuple_tuple, kitB_str_str, atI_0, z3] <;> rfl)) ?_
      refine Eq.trans (sq_nx (by simp [atI_0, str_sn] <;> rfl)) ?_
      refine Eq.trans (sq_nx (by simp [atI_0, atI_1, atI_2, z3, wk, kitB_tuple_tuple] <;> rfl)) ?_
      refine Eq.trans (sq_ret (M' := ⟨[some (.v (.tup [.str "sign", .str w, .tup (ps.map encP)])), some (.v (.int s)), none, none], h⟩) (e := .v (.bl ((Tm.sign w ps).inB s))) ?_) rfl
      simp [atI_0, atI_2]
      rw [lcL_map0 _ encP (fun p => .bl (p.2.inB (s + p.1)))]
      · simp [asBls_fun, Tm.inB_sign]
      · intro p hp
        simp [ih p hp]
    | hole w ts =>
      have hw' := (Tm.Ok_hole w ts).mp hw
      have e2 : ts.length ≤ sizeLine := by simp [Tm.inner] at il; omega
      have wk := is_word_ok w h (by have := hw'.1.1; omega)
      rw [hw'.1.2] at wk
      have ih : ∀ p ∈ ts, f_is_term n [p.enc, .int s] h = .ok (.v (.bl (p.inB s))) h := fun p hp => by
        have hp' : (0, p) ∈ (Tm.hole w ts).inner := by simp [Tm.inner, hp]
        have hdp := Tm.depth_lt hp'
        simp at hdp
        exact is_term_ok h m p s n (by omega) (by omega) (by have := Tm.size_lt hp'; simp at this; omega) (hw'.2 p hp)
      refine def_ret (M := ⟨[some (.v (Tm.hole w ts).enc), some (.v (.int s)), none, none], h⟩) rfl ?_
      unfold b_is_term
      rw [Tm.enc_hole]
      refine Eq.trans (sq_nx (by simp [kitB_tuple_tuple, kitB_str_str, atI_0, z3] <;> rfl)) ?_
      refine Eq.trans (sq_nx (by simp [atI_0, str_hn] <;> rfl)) ?_
      refine Eq.trans (sq_nx (by simp [atI_0, atI_1, atI_2, z3, wk, kitB_tuple_tuple] <;> rfl)) ?_
      refine Eq.trans (sq_nx (by simp [atI_0, str_hs] <;> rfl)) ?_
      simp [atI_0, atI_2]
      rw [lcL_map0 _ Tm.enc (fun p => .bl (p.inB s))]
      · simp [asBls_fun, Tm.inB_hole]
      · intro p hp
        simp [ih p hp]
end HF

end
section
set_option Elab.async false
set_option linter.all false
set_option maxRecDepth 20000
set_option autoImplicit false
namespace HF
open PySem PySem.Spec PyProof.Rows L2
/-! RU: is_rule of two terms. -/
theorem bOr_gen {f g : Sm Bool} {M : Mem} {a b : Bool} (h : f M = .ok a M) (h2 : g M = .ok b M) : bOr f g M = .ok (a || b) M := by
  cases a
  · exact bOr_ft h h2
  · exact bOr_t h
theorem nor4 (a b c d : Bool) (h : ¬ (a && b && c && d) = true) : (!a || (!b || (!c || !d))) = true := by
  cases a <;> cases b <;> cases c <;> cases d <;> first | rfl | exact absurd rfl h
def isSignT : Tm → Bool
  | .sign _ _ => true
  | _ => false
def ruleB (L R : Tm) : Bool := L.inB 0 && R.inB 0 && isSignT L && strT L && (alikeA L []).1 && (alikeA R (alikeA L []).2).1 && decide ((alikeA R (alikeA L []).2).2.length = (alikeA L []).2.length)
theorem is_rule_ok (L R : Tm) (h : List PO) (hL : L.Wd) (hR : R.Wd) (dL : L.depth ≤ 11) (dR : R.depth ≤ 11) (sL : L.size ≤ 1000) (sR : R.size ≤ 1000) : ∃ h', f_is_rule [.tup [L.enc, R.enc]] h = .ok (.v (.bl (ruleB L R))) h' := by
  have zs := sizeLine_val
  have z2 : (2 : Nat) ≤ sizeLine := by omega
  have tL := is_term_ok h 11 L 0 22 dL (by omega) (by omega) hL
  have tR := is_term_ok h 11 R 0 22 dR (by omega) (by omega) hR
  have st := straight_ok 12 L h (by omega) (by omega)
  obtain ⟨P, eP⟩ : ∃ P : PV, P = .tup [L.enc, R.enc] := ⟨_, rfl⟩
  obtain ⟨N, eN⟩ : ∃ N : Option LV → Option LV → List PO → Mem, N = fun x3 x4 g => ⟨[some (.v P), some (.v L.enc), some (.v R.enc), x3, x4], g⟩ := ⟨_, rfl⟩
  have i0 : atI [PV.tup [L.enc, R.enc]] 0 = some (.tup [L.enc, R.enc]) := rfl
  have c1 : (bNot (bVal (eCall (f_is_term 22) [.int 0] (aCons (toP (eVar 1)) aNil)))) (N none none h) = .ok (!L.inB 0) (N none none h) := bNot_at (bVal_at (by
    simp at tL
    rw [eN]; simp [tL]))
  have c2 : (bNot (bVal (eCall (f_is_term 22) [.int 0] (aCons (toP (eVar 2)) aNil)))) (N none none h) = .ok (!R.inB 0) (N none none h) := bNot_at (bVal_at (by
    simp at tR
    rw [eN]; simp [tR]))
  have c3 : (b2 cpNe (e2 opIx (eVar 1) (eC (.int 0))) (eC (.str "sign"))) (N none none h) = .ok (!isSignT L) (N none none h) := by
    rw [eN]
    cases L with
    | name k => simp [Tm.enc_name, atI_0, str_ns, isSignT]
    | sign w ps => simp [Tm.enc_sign, atI_0, isSignT]
    | hole w ts => simp [Tm.enc_hole, atI_0, str_hs, isSignT]
  have c4 : (bNot (bVal (eCall (f_is_straight 12) [] (aCons (toP (eVar 1)) aNil)))) (N none none h) = .ok (!strT L) (N none none h) := bNot_at (bVal_at (by rw [eN]; simp [st]))
  have cc := bOr_gen c1 (bOr_gen c2 (bOr_gen c3 c4))
  have start : ∀ {e : EV} {g : List PO} {G : Ss}, EndAt (G (N none none h)) e g → EndAt ((sSeq (sIf (bOr (bNot (bVal (e1 (opIsi "tuple") (eVar 0)))) (b2 cpNe (e1 opLen (eVar 0)) (eC (.int 2)))) (sRet (eC (.bl false))) sNop) (sSeq (sPat (.tp [1, 2]) (toP (eVar 0))) G)) ⟨[some (.v P), none, none, none, none], h⟩) e g := fun {e g G} hG => by
    refine xT (sq_nx (M' := ⟨[some (.v P), none, none, none, none], h⟩) ((if_f (by rw [eP]; simp [kitB_tuple_tuple, z2])).trans rfl)) ?_
    exact xT (sq_nx (M' := N none none h) (by rw [eN, eP]; simp)) hG
  by_cases cb : (L.inB 0 && R.inB 0 && isSignT L && strT L) = true
  · have cF : (!L.inB 0 || (!R.inB 0 || (!isSignT L || !strT L))) = false := by
      simp only [Bool.and_eq_true] at cb
      obtain ⟨⟨⟨q1, q2⟩, q3⟩, q4⟩ := cb
      rw [q1, q2, q3, q4]; rfl
    rw [cF] at cc
    obtain ⟨g0, eg0⟩ : ∃ g0, g0 = h ++ [kO []] := ⟨_, rfl⟩
    have k0 : g0[h.length]? = some (kO []) := by rw [eg0]; simp
    have lt0 : h.length < g0.length := by rw [eg0]; simp
    obtain ⟨K, eK⟩ : ∃ K, K = (alikeA L []).2 := ⟨_, rfl⟩
    have aL := alike_ok h.length 12 L [] g0 (by omega) sL (by simp; omega) k0
    rw [← eK] at aL
    obtain ⟨g1, eg1⟩ : ∃ g1, g1 = g0.set h.length (kO K) := ⟨_, rfl⟩
    rw [← eg1] at aL
    have k1 : g1[h.length]? = some (kO K) := by rw [eg1, List.getElem?_set_self lt0]
    have Kl : K.length ≤ 1000 := by
      have := alikeA_len L []
      rw [← eK] at this
      simp at this; omega
    have aR := alike_ok h.length 12 R K g1 (by omega) sR (by omega) k1
    have Rl := alikeA_len R K
    have lt1 : h.length < g1.length := by rw [eg1]; simpa using lt0
    have kz : K.length ≤ sizeLine := by omega
    have kz2 : (alikeA R K).2.length ≤ sizeLine := by omega
    have sc : (sCell 3 eDct0) (N none none h) = .nx (N (some (.v (.ref h.length))) none g0) := by rw [eN, eg0]; simp [kO, kK, kV']
    have cA : (bNot (bVal (eCall (f_holes_alike 12) [] (aCons (toP (eVar 1)) (aCons (toP (eVar 3)) aNil))))) (N (some (.v (.ref h.length))) none g0) = .ok (!(alikeA L []).1) (N (some (.v (.ref h.length))) none g1) := bNot_at (bVal_at (by rw [eN]; simp [aL]))
    cases ea : (alikeA L []).1 with
    | false =>
      rw [ea] at cA
      refine ⟨g1, ?_⟩
      have : ruleB L R = false := by unfold ruleB; rw [ea]; simp
      rw [this]
      unfold f_is_rule
      refine dx_v rfl ?_
      unfold b_is_rule
      rw [← eP]
      refine start ?_
      refine xT (sq_nx ((if_f cc).trans rfl)) ?_
      refine xT (sq_nx sc) ?_
      exact xE (r := (N (some (.v (.ref h.length))) none g1).r) (sq_ret ((if_t cA).trans (by rw [eN]; rfl)))
    | true =>
      rw [ea] at cA
      refine ⟨g1.set h.length (kO (alikeA R K).2), ?_⟩
      have : ruleB L R = ((alikeA R K).1 && decide ((alikeA R K).2.length = K.length)) := by unfold ruleB; rw [cb, ea, ← eK]; simp
      rw [this]
      unfold f_is_rule
      refine dx_v rfl ?_
      unfold b_is_rule
      rw [← eP]
      refine start ?_
      refine xT (sq_nx ((if_f cc).trans rfl)) ?_
      refine xT (sq_nx sc) ?_
      refine xT (sq_nx ((if_f cA).trans rfl)) ?_
      have kl2 : (kK K).length = K.length := by simp [kK]
      have kl3 : (kK (alikeA R K).2).length = (alikeA R K).2.length := by simp [kK]
      refine xT (sq_nx (M' := N (some (.v (.ref h.length))) (some (.v (.int K.length))) g1) (by
        unfold kO at k1
        rw [eN]; simp [k1, kl2, kz])) ?_
      have lt2 : (g1.set h.length (kO (alikeA R K).2))[h.length]? = some (kO (alikeA R K).2) := List.getElem?_set_self lt1
      refine xE (r := (N (some (.v (.ref h.length))) (some (.v (.int K.length))) h).r) (ret_at (M1 := N (some (.v (.ref h.length))) (some (.v (.int K.length))) (g1.set h.length (kO (alikeA R K).2))) (p := .bl ((alikeA R K).1 && decide ((alikeA R K).2.length = K.length))) ?_ |>.trans (by rw [eN]))
      have v1 : (eCall (f_holes_alike 12) [] (aCons (toP (eVar 2)) (aCons (toP (eVar 3)) aNil))) (N (some (.v (.ref h.length))) (some (.v (.int K.length))) g1) = .ok (.v (.bl (alikeA R K).1)) (N (some (.v (.ref h.length))) (some (.v (.int K.length))) (g1.set h.length (kO (alikeA R K).2))) := by rw [eN]; simp [aR]
      have v2 : (eB (b2 cpEq (e1 opLen (eVar 3)) (eVar 4))) (N (some (.v (.ref h.length))) (some (.v (.int K.length))) (g1.set h.length (kO (alikeA R K).2))) = .ok (.v (.bl (decide ((alikeA R K).2.length = K.length)))) (N (some (.v (.ref h.length))) (some (.v (.int K.length))) (g1.set h.length (kO (alikeA R K).2))) := by
        obtain ⟨gg, egg⟩ : ∃ gg, gg = g1.set h.length (kO (alikeA R K).2) := ⟨_, rfl⟩
        rw [← egg] at lt2 ⊢
        unfold kO at lt2
        refine eB_at (b2_at (x := .v (.int ((alikeA R K).2.length : Nat))) (y := .v (.int (K.length : Nat))) (M1 := N (some (.v (.ref h.length))) (some (.v (.int K.length))) gg) ?_ ?_ ?_)
        · rw [eN]; simp [lt2, kl3, kz2]
        · rw [eN]; simp
        · simp
          omega
      have ev : ∀ (b : Bool) (f : Sm EV) (M0 M1 : Mem) (g : Sm EV) (x : Bool), f M0 = .ok (.v (.bl b)) M1 → g M1 = .ok (.v (.bl x)) M1 → eAnd f g M0 = .ok (.v (.bl (b && x))) M1 := fun b f M0 M1 g x hf hg => by
        have hv : bVal f M0 = .ok b M1 := bVal_at hf
        unfold eAnd
        rw [hv]
        cases b
        · rfl
        · exact hg
      exact ev _ _ _ _ _ _ v1 v2
  · have cT : (!L.inB 0 || (!R.inB 0 || (!isSignT L || !strT L))) = true := by
      exact nor4 _ _ _ _ cb
    rw [cT] at cc
    refine ⟨h, ?_⟩
    have : ruleB L R = false := by unfold ruleB; rw [Bool.eq_false_iff.mpr cb]; rfl
    rw [this]
    unfold f_is_rule
    refine dx_v rfl ?_
    unfold b_is_rule
    rw [← eP]
    refine start ?_
    exact xE (r := (N none none h).r) (sq_ret ((if_t cc).trans (by rw [eN]; rfl)))
end HF

end
section
set_option Elab.async false
set_option linter.all false
set_option maxRecDepth 20000
set_option autoImplicit false
namespace HF
open PySem PySem.Spec PyProof.Rows L2
/-! HE: _law_held; when all holes are alike. -/
theorem keyU {hs : KN} (h : (hs.map (·.1)).Nodup) {w : Str} {a b : Nat} (ha : (w, a) ∈ hs) (hb : (w, b) ∈ hs) : a = b := by
  induction hs with
  | nil => simp at ha
  | cons q l ih =>
    simp only [List.map_cons, List.nodup_cons] at h
    rcases List.mem_cons.mp ha with e1 | ha'
    · rcases List.mem_cons.mp hb with e2 | hb'
      · rw [← e1] at e2; cases e2; rfl
      · exact absurd (List.mem_map.mpr ⟨(w, b), hb', by rw [← e1]⟩) h.1
    · rcases List.mem_cons.mp hb with e2 | hb'
      · exact absurd (List.mem_map.mpr ⟨(w, a), ha', by rw [← e2]⟩) h.1
      · exact ih h.2 ha' hb'
structure Gr (hs K K' : KN) : Prop where
  sub : ∀ p ∈ K', p ∈ hs
  nd : (K'.map (·.1)).Nodup
  ext : ∀ p ∈ K, p ∈ K'
theorem Ok_mono {S : Str → List Nat → Prop} {K K' : KN} (h : ∀ p ∈ K, p ∈ K') {t : Tm} : t.Ok S (OW K) → t.Ok S (OW K') := by
  induction t using Tm.ind with
  | hn k => intro _; exact (Tm.Ok_name _).mpr trivial
  | hs w ps ih => intro q; have q' := (Tm.Ok_sign w ps).mp q; exact (Tm.Ok_sign w ps).mpr ⟨q'.1, fun p hp => ih p hp (q'.2 p hp)⟩
  | hh w ts ih => intro q; have q' := (Tm.Ok_hole w ts).mp q; exact (Tm.Ok_hole w ts).mpr ⟨h _ q'.1, fun p hp => ih p hp (q'.2 p hp)⟩
theorem go_grow {S : Str → List Nat → Prop} {hs : KN} (ts : List Tm) (H : ∀ t ∈ ts, ∀ K, (∀ p ∈ K, p ∈ hs) → (K.map (·.1)).Nodup → (alikeA t K).1 = true ∧ Gr hs K (alikeA t K).2 ∧ t.Ok S (OW (alikeA t K).2)) :
    ∀ K, (∀ p ∈ K, p ∈ hs) → (K.map (·.1)).Nodup → (goA (ts.map alikeA) K).1 = true ∧ Gr hs K (goA (ts.map alikeA) K).2 ∧ ∀ t ∈ ts, t.Ok S (OW (goA (ts.map alikeA) K).2) := by
  induction ts with
  | nil => intro K h1 h2; exact ⟨rfl, ⟨h1, h2, fun p hp => hp⟩, by simp⟩
  | cons t ts ih =>
    intro K h1 h2
    obtain ⟨a1, a2, a3⟩ := H t List.mem_cons_self K h1 h2
    obtain ⟨b1, b2, b3⟩ := ih (fun u hu => H u (List.mem_cons_of_mem _ hu)) (alikeA t K).2 a2.sub a2.nd
    simp only [List.map_cons, goA]
    refine ⟨by rw [a1, b1]; rfl, ⟨b2.sub, b2.nd, fun p hp => b2.ext p (a2.ext p hp)⟩, fun u hu => ?_⟩
    rcases List.mem_cons.mp hu with rfl | hu
    · exact Ok_mono b2.ext a3
    · exact b3 u hu
theorem alike_grow {S : Str → List Nat → Prop} {hs : KN} (nd : (hs.map (·.1)).Nodup) (t : Tm) : t.Ok S (OW hs) → ∀ K, (∀ p ∈ K, p ∈ hs) → (K.map (·.1)).Nodup → (alikeA t K).1 = true ∧ Gr hs K (alikeA t K).2 ∧ t.Ok S (OW (alikeA t K).2) := by
  induction t using Tm.ind with
  | hn k => intro _ K h1 h2; rw [alikeA_name]; exact ⟨rfl, ⟨h1, h2, fun p hp => hp⟩, (Tm.Ok_name _).mpr trivial⟩
  | hs w ps ih =>
    intro ok K h1 h2
    have ok' := (Tm.Ok_sign _ _).mp ok
    rw [alikeA_sign]
    have e : (ps.map fun p => alikeA p.2) = (ps.map (·.2)).map alikeA := by rw [List.map_map]; rfl
    rw [e]
    obtain ⟨b1, b2, b3⟩ := go_grow (S := S) (hs := hs) (ps.map (·.2)) (fun t ht K h1 h2 => by
      obtain ⟨p, hp, rfl⟩ := List.mem_map.mp ht
      exact ih p hp (ok'.2 p hp) K h1 h2) K h1 h2
    exact ⟨b1, b2, (Tm.Ok_sign _ _).mpr ⟨ok'.1, fun p hp => b3 _ (List.mem_map_of_mem hp)⟩⟩
  | hh w ts ih =>
    intro ok K h1 h2
    have ok' := (Tm.Ok_hole _ _).mp ok
    have go := go_grow (S := S) (hs := hs) ts (fun t ht K h1 h2 => ih t ht (ok'.2 t ht) K h1 h2)
    rw [alikeA_hole]
    cases e : lookN K w with
    | none =>
      simp only
      have n1 : ∀ p ∈ K ++ [(w, ts.length)], p ∈ hs := fun p hp => by
        rcases List.mem_append.mp hp with hp | hp
        · exact h1 p hp
        · simp at hp; subst hp; exact ok'.1
      have n2 : ((K ++ [(w, ts.length)]).map (·.1)).Nodup := by
        rw [List.map_append, List.nodup_append]
        refine ⟨h2, by simp, fun x hx y hy z => ?_⟩
        simp at hy; subst hy; subst z
        exact lookN_none.mp e hx
      obtain ⟨b1, b2, b3⟩ := go _ n1 n2
      exact ⟨b1, ⟨b2.sub, b2.nd, fun p hp => b2.ext p (List.mem_append_left _ hp)⟩, (Tm.Ok_hole _ _).mpr ⟨b2.ext _ (by simp), b3⟩⟩
    | some l =>
      have lm := lookN_mem e
      have : l = ts.length := keyU nd (h1 _ lm) ok'.1
      simp only
      rw [if_pos this]
      obtain ⟨b1, b2, b3⟩ := go K h1 h2
      exact ⟨b1, b2, (Tm.Ok_hole _ _).mpr ⟨b2.ext _ (this ▸ lm), b3⟩⟩
/-- nothing new -/
theorem alike_same {S : Str → List Nat → Prop} {K : KN} (nd : (K.map (·.1)).Nodup) (t : Tm) : t.Ok S (OW K) → alikeA t K = (true, K) := by
  have go : ∀ fs : List AF, (∀ f ∈ fs, f K = (true, K)) → goA fs K = (true, K) := by
    intro fs
    induction fs with
    | nil => intro _; rfl
    | cons f fs ih =>
      intro h
      simp only [goA, h f List.mem_cons_self, ih fun g hg => h g (List.mem_cons_of_mem _ hg)]
      rfl
  induction t using Tm.ind with
  | hn k => intro _; exact alikeA_name _ _
  | hs w ps ih =>
    intro ok
    rw [alikeA_sign]
    exact go _ fun f hf => by
      obtain ⟨p, hp, rfl⟩ := List.mem_map.mp hf
      exact ih p hp (((Tm.Ok_sign _ _).mp ok).2 p hp)
  | hh w ts ih =>
    intro ok
    have ok' := (Tm.Ok_hole _ _).mp ok
    have gg := go (ts.map alikeA) fun f hf => by
      obtain ⟨p, hp, rfl⟩ := List.mem_map.mp hf
      exact ih p hp (ok'.2 p hp)
    rw [alikeA_hole]
    cases e : lookN K w with
    | none => exact absurd (List.mem_map_of_mem (f := fun p : Str × Nat => p.1) ok'.1) (lookN_none.mp e)
    | some l =>
      have : l = ts.length := keyU nd (lookN_mem e) ok'.1
      simp only
      rw [if_pos this]
      exact gg
theorem dPut_same (w : Str) (l : Nat) : ∀ K : KN, (∀ p ∈ K, p.1 = w → p.2 = l) → dPutV (kK K) (kV' K) (.inr w) (.int (l : Nat)) = kV' K
  | [], _ => rfl
  | q :: K, h => by
    have ih := dPut_same w l K fun p hp => h p (List.mem_cons_of_mem _ hp)
    unfold kK kV' at ih ⊢
    simp only [List.map_cons, dPutV, inr_inj, ih]
    congr 1
    split
    · rename_i e; rw [h q List.mem_cons_self e]
    · rfl
theorem dStore_same {K : KN} {w : Str} {l : Nat} (h : (w, l) ∈ K) (hu : ∀ p ∈ K, p.1 = w → p.2 = l) : dStore (kK K) (kV' K) (.inr w) (.int (l : Nat)) = (kK K, kV' K) := by
  unfold dStore
  rw [if_pos, dPut_same w l K hu]
  rw [List.any_eq_true]
  exact ⟨.inr w, List.mem_map_of_mem (f := fun p : Str × Nat => (.inr p.1 : Key)) h, by simp⟩
theorem for_go {all : List PV} {pt : Pat} {b : Ss} {ws : List Nat} {x : PV} {xs : List PV} {M M' : Mem} (h : forTurn pt b ws x M = .go M') : forL (.v .non) all pt b ws (x :: xs) M = forL (.v .non) all pt b ws xs M' := by
  conv => lhs; unfold forL
  rw [if_pos (show Chk (.v .non) all _ from trivial), h]
theorem for_nil {all : List PV} {pt : Pat} {b : Ss} {ws : List Nat} {M : Mem} : forL (.v .non) all pt b ws [] M = .nx M := by
  unfold forL
  rw [if_pos (show Chk (.v .non) all _ from trivial)]
theorem call2_at {F : Fn} {A B : Sm PV} {M : Mem} {a b p : PV} {h2 : List PO} (ha : A M = .ok a M) (hb : B M = .ok b M) (hf : F [a, b] M.h = .ok (.v p) h2) : eCall F [] (aCons A (aCons B aNil)) M = .ok (.v p) ⟨M.r, h2⟩ := by
  simp [ha, hb, hf]
theorem exp_at {f : Sm EV} {M M1 : Mem} {e : EV} (h : f M = .ok e M1) : sExp f M = .nx M1 := by simp [sExp, h]
theorem held_ok {S : Str → List Nat → Prop} {hs : KN} (nd : (hs.map (·.1)).Nodup) (q : Nat) : ∀ (n : Nat) (t : Tm) (K : KN) (h : List PO), t.depth ≤ n → t.size ≤ 1000 → K.length + t.size ≤ 5000 → t.Ok S (OW hs) → (∀ p ∈ K, p ∈ hs) → (K.map (·.1)).Nodup → h[q]? = some (kO K) →
    f_law_held n [t.enc, .ref q] h = .ok (.v (.ref q)) (h.set q (kO (alikeA t K).2))
  | 0, t, K, h, hd, _, _, _, _, _, _ => by rw [Tm.depth_eq] at hd; omega
  | n + 1, t, K, h, hd, hz, hl, ok, hK, hnd, hr => by
    have zs := sizeLine_val
    have il := t.inner_len
    have hsz := Tm.size_eq t
    have lt : q < h.length := (List.getElem?_eq_some_iff.mp hr).1
    unfold f_law_held
    -- the inner loop
    have inner : ∀ (all : List PV) (e0 x2 : PV) (f : Nat × Tm → PV) (hf : ∀ p ∈ t.inner, ∀ h : List PO, (toP (e2 opIx (eLst (aCons (toP (eVar 3)) (aCons (toP (e2 opIx (eVar 3) (eC (.int 1)))) aNil))) (e1 opIntOf (eB (b2 cpEq (e2 opIx (eVar 0) (eC (.int 0))) (eC (.str "sign"))))))) ⟨[some (.v e0), some (.v (.ref q)), some (.v x2), some (.v (f p))], h⟩ = .ok p.2.enc ⟨[some (.v e0), some (.v (.ref q)), some (.v x2), some (.v (f p))], h⟩)
        (xs : List (Nat × Tm)) (K : KN) (h : List PO), (∀ p ∈ xs, p ∈ t.inner ∧ p.2.Ok S (OW hs)) → K.length + (xs.map fun p => p.2.size).sum ≤ 5000 → (∀ p ∈ K, p ∈ hs) → (K.map (·.1)).Nodup → h[q]? = some (kO K) →
        forL (.v .non) all (.nm 3) (b_law_held_1 (f_law_held n)) [3] (xs.map f) ⟨[some (.v e0), some (.v (.ref q)), some (.v x2), none], h⟩ = .nx ⟨[some (.v e0), some (.v (.ref q)), some (.v x2), none], h.set q (kO (goA (xs.map fun p => alikeA p.2) K).2)⟩ := by
      intro all e0 x2 f hf xs
      induction xs with
      | nil => intro K h _ _ _ _ hr; simp only [List.map_nil, goA]; rw [setSame hr]; exact for_nil
      | cons x xs ih =>
        intro K h hx hs' hK hnd hr
        have lt : q < h.length := (List.getElem?_eq_some_iff.mp hr).1
        simp only [List.map_cons, List.sum_cons] at hs'
        obtain ⟨mem, xo⟩ := hx x List.mem_cons_self
        have d1 := Tm.depth_lt mem
        have s1 := Tm.size_lt mem
        have go := held_ok nd q n x.2 K h (by omega) (by omega) (by omega) xo hK hnd hr
        have gr := alike_grow nd x.2 xo K hK hnd
        have l2 := alikeA_len x.2 K
        have ih := ih (alikeA x.2 K).2 (h.set q (kO (alikeA x.2 K).2)) (fun p hp => hx p (List.mem_cons_of_mem _ hp)) (by omega) gr.2.1.sub gr.2.1.nd (by rw [List.getElem?_set_self lt])
        rw [List.set_set] at ih
        simp only [List.map_cons, goA]
        refine (for_go ?_).trans ih
        have hx' := hf x mem h
        exact turn_go (r' := [some (.v e0), some (.v (.ref q)), some (.v x2), some (.v (f x))]) (M2 := ⟨[some (.v e0), some (.v (.ref q)), some (.v x2), some (.v (f x))], h.set q (kO (alikeA x.2 K).2)⟩) rfl (exp_at (call2_at (M := ⟨[some (.v e0), some (.v (.ref q)), some (.v x2), some (.v (f x))], h⟩) hx' (b := .ref q) (by simp) go)) rfl
    have outer : ∀ (all : List PV) (e0 xv : PV) (f : Nat × Tm → PV) (hf : ∀ p ∈ t.inner, ∀ h : List PO, (toP (e2 opIx (eLst (aCons (toP (eVar 3)) (aCons (toP (e2 opIx (eVar 3) (eC (.int 1)))) aNil))) (e1 opIntOf (eB (b2 cpEq (e2 opIx (eVar 0) (eC (.int 0))) (eC (.str "sign"))))))) ⟨[some (.v e0), some (.v (.ref q)), some (.v xv), some (.v (f p))], h⟩ = .ok p.2.enc ⟨[some (.v e0), some (.v (.ref q)), some (.v xv), some (.v (f p))], h⟩)
        (exv : xv = .tup (t.inner.map f)) (hok : ∀ p ∈ t.inner, p.2.Ok S (OW hs)) (K : KN) (h : List PO), K.length + (t.inner.map fun p => p.2.size).sum ≤ 5000 → (∀ p ∈ K, p ∈ hs) → (K.map (·.1)).Nodup → h[q]? = some (kO K) →
        forL (.v .non) all (.nm 2) (b_law_held_2 (f_law_held n)) [2, 3] [xv] ⟨[some (.v e0), some (.v (.ref q)), none, none], h⟩ = .nx ⟨[some (.v e0), some (.v (.ref q)), none, none], h.set q (kO (goA (t.inner.map fun p => alikeA p.2) K).2)⟩ := fun all e0 xv f hf exv hok K h hs' hK hnd hr => by
      refine (for_go ?_).trans for_nil
      refine turn_go (r' := [some (.v e0), some (.v (.ref q)), some (.v xv), none]) (M2 := ⟨[some (.v e0), some (.v (.ref q)), some (.v xv), none], h.set q (kO (goA (t.inner.map fun p => alikeA p.2) K).2)⟩) rfl ?_ rfl
      unfold b_law_held_2
      exact for_nx (M1 := ⟨[some (.v e0), some (.v (.ref q)), some (.v xv), none], h⟩) (sr := (.v .non, t.inner.map f)) (by rw [exv]; simp) (inner (t.inner.map f) e0 xv f hf t.inner K h (fun p hp => ⟨hp, hok p hp⟩) hs' hK hnd hr)
    refine dx_v rfl ?_
    unfold b_law_held
    cases t with
    | name k =>
      rw [alikeA_name]
      simp only
      rw [setSame hr]
      refine xT (sq_nx (M' := ⟨[some (.v (Tm.name k).enc), some (.v (.ref q)), none, none], h⟩) ((if_fK (by simp [Tm.enc_name, atI_0, str_nh])).trans rfl)) ?_
      refine xT (sq_nx (M' := ⟨[some (.v (Tm.name k).enc), some (.v (.ref q)), none, none], h⟩) (for_nx (M1 := ⟨[some (.v (Tm.name k).enc), some (.v (.ref q)), none, none], h⟩) (sr := (.v .non, [])) ?_ for_nil)) ?_
      · simp [Tm.enc_name]
        exact cutP_drop _ 2
      · exact xE (by simp <;> rfl)
    | sign w ps =>
      rw [alikeA_sign]
      have ok' := (Tm.Ok_sign _ _).mp ok
      refine xT (sq_nx (M' := ⟨[some (.v (Tm.sign w ps).enc), some (.v (.ref q)), none, none], h⟩) ((if_fK (by simp [Tm.enc_sign, atI_0, str_sh])).trans rfl)) ?_
      have ol := outer [.tup (ps.map encP)] (Tm.sign w ps).enc (.tup (ps.map encP)) encP (fun p hp h => by simp [Tm.enc_sign, encP, atI_0, atI_1]) rfl (fun p hp => ok'.2 p hp) K h (by omega) hK hnd hr
      refine xT (sq_nx (M' := ⟨[some (.v (Tm.sign w ps).enc), some (.v (.ref q)), none, none], h.set q (kO (goA (ps.map fun p : Nat × Tm => alikeA p.2) K).2)⟩) (for_nx (M1 := ⟨[some (.v (Tm.sign w ps).enc), some (.v (.ref q)), none, none], h⟩) (sr := (.v .non, [.tup (ps.map encP)])) ?_ ol)) ?_
      · simp [Tm.enc_sign]
        exact cutP_drop _ 2
      · exact xE (by simp <;> rfl)
    | hole w ts =>
      have ok' := (Tm.Ok_hole _ _).mp ok
      have tz : ts.length ≤ sizeLine := by simp [Tm.inner] at il; omega
      have kz : (kK K).length < sizeLine := by simp [kK]; omega
      have eg : ((Tm.hole w ts).inner.map fun p => alikeA p.2) = ts.map alikeA := by simp [Tm.inner, Function.comp_def]
      have em : ((Tm.hole w ts).inner.map fun p : Nat × Tm => p.2.enc) = ts.map Tm.enc := by simp [Tm.inner, Function.comp_def]
      obtain ⟨K1, eK1, dsE, n1, n2, Kl⟩ : ∃ K1 : KN, (alikeA (.hole w ts) K).2 = (goA (ts.map alikeA) K1).2 ∧ dStore (kK K) (kV' K) (.inr w) (.int (ts.length : Nat)) = (kK K1, kV' K1) ∧ (∀ p ∈ K1, p ∈ hs) ∧ (K1.map (·.1)).Nodup ∧ K1.length ≤ K.length + 1 := by
        rw [alikeA_hole]
        cases e : lookN K w with
        | none =>
          refine ⟨K ++ [(w, ts.length)], rfl, dStore_N _ e, fun p hp => ?_, ?_, by simp⟩
          · rcases List.mem_append.mp hp with hp | hp
            · exact hK p hp
            · simp at hp; subst hp; exact ok'.1
          · rw [List.map_append, List.nodup_append]
            refine ⟨hnd, by simp, fun x hx y hy z => ?_⟩
            simp at hy; subst hy; subst z
            exact lookN_none.mp e hx
        | some l =>
          have lm := lookN_mem e
          have el : l = ts.length := keyU nd (hK _ lm) ok'.1
          simp only
          rw [if_pos el]
          refine ⟨K, rfl, dStore_same (el ▸ lm) fun p hp ep => keyU nd (w := w) (by have := hK p hp; rw [← ep]; exact this) ok'.1, hK, hnd, by omega⟩
      rw [eK1]
      have ol := outer [.tup (ts.map Tm.enc)] (Tm.hole w ts).enc (.tup (ts.map Tm.enc)) (fun p => p.2.enc) (fun p hp h => by
        obtain ⟨y, ys, ey⟩ : ∃ y ys, p.2.enc = .tup (y :: ys) ∧ ∃ z, atI (y :: ys) 1 = some z := by
          cases p.2 with
          | name k => exact ⟨_, _, Tm.enc_name k, _, rfl⟩
          | sign w ps => exact ⟨_, _, Tm.enc_sign w ps, _, rfl⟩
          | hole w ps => exact ⟨_, _, Tm.enc_hole w ps, _, rfl⟩
        obtain ⟨ey, z, ez⟩ := ey
        rw [ey]
        simp [Tm.enc_hole, atI_0, str_hs, ez]) (by rw [em]) (fun p hp => by
          simp only [Tm.inner, List.mem_map] at hp
          obtain ⟨u, hu, rfl⟩ := hp
          exact ok'.2 u hu) K1 (h.set q (kO K1)) (by omega) n1 n2 (by rw [List.getElem?_set_self lt])
      rw [eg, List.set_set] at ol
      refine xT (sq_nx (M' := ⟨[some (.v (Tm.hole w ts).enc), some (.v (.ref q)), none, none], h.set q (kO K1)⟩) ((if_tK (by simp [Tm.enc_hole, atI_0])).trans ?_)) ?_
      · unfold kO at hr ⊢
        simp [Tm.enc_hole, atI_1, atI_2, tz, hr, kz, dsE]
      refine xT (sq_nx (M' := ⟨[some (.v (Tm.hole w ts).enc), some (.v (.ref q)), none, none], h.set q (kO (goA (ts.map alikeA) K1).2)⟩) (for_nx (M1 := ⟨[some (.v (Tm.hole w ts).enc), some (.v (.ref q)), none, none], h.set q (kO K1)⟩) (sr := (.v .non, [.tup (ts.map Tm.enc)])) ?_ ol)) ?_
      · simp [Tm.enc_hole]
        exact cutP_drop _ 2
      · exact xE (by simp <;> rfl)
end HF

end
section
set_option Elab.async false
set_option linter.all false
set_option maxRecDepth 20000
set_option autoImplicit false
namespace HF
open PySem PySem.Spec PyProof.Rows L2 HFS
/-! RL: the rule that is drawn. -/
def toI (K : KN) : List PI := K.map fun p => (p.1, (p.2 : Int))
theorem itemsI_K : ∀ K : KN, itemsI (kK K) (kV' K) = some (toI K)
  | [] => rfl
  | p :: K => by
    have := itemsI_K K
    unfold kK kV' toI at this ⊢
    simp only [List.map_cons, itemsI, this]
    rfl
/-- the holes of K, in the order of their words -/
def ownK (K : KN) : KN := (srtI (toI K)).map fun b => (b.1, b.2.toNat)
theorem ownK_perm (K : KN) : (ownK K).Perm K := by
  have := (srtI_perm (toI K)).map fun b : PI => (b.1, b.2.toNat)
  refine this.trans (List.Perm.of_eq ?_)
  unfold toI
  rw [List.map_map]
  conv => rhs; rw [← List.map_id K]
  exact List.map_congr_left fun p _ => by simp
theorem ownK_val (K : KN) : (srtI (toI K)).map tupI = (ownK K).map holeV := by
  unfold ownK
  rw [List.map_map]
  refine List.map_congr_left fun b hb => ?_
  have := (srtI_perm (toI K)).mem_iff.mp hb
  unfold toI at this
  obtain ⟨p, hp, rfl⟩ := List.mem_map.mp this
  simp [tupI, holeV]
structure RuleOk (ws : List Str) (hs : KN) (L R : Tm) : Prop where
  Lin : L.In 0
  Ldep : L.depth ≤ 5
  Lsz : L.size ≤ 200
  Lok : L.Ok (SW ws) (OW hs)
  Lst : strT L = true
  Lsg : isSignT L = true
  Rin : R.In 0
  Rdep : R.depth ≤ 3
  Rsz : R.size ≤ 200
  Rok : R.Ok (SW ws) (OW (alikeA L []).2)
theorem rule_ok (ws : List Str) (hs : KN) (cs : List Int) (h : List PO) (hw : 5 ≤ ws.length) (hw2 : ws.length ≤ 1000) (hh : hs.length ≤ 60) (hh2 : ∀ p ∈ hs, p.2 ≤ 3) (hh3 : ∀ p ∈ hs, PyData.strOk p.1 = true) (nd : (hs.map (·.1)).Nodup) (hc : cs.length ≤ 1000) :
    ∃ (L R : Tm) (h' : List PO), f_law_rule [.lst (cs.map .int), .lst (ws.map .str), .lst (hs.map holeV)] h = .ok (.v (.tup [L.enc, R.enc])) h' ∧ RuleOk ws hs L R := by
  have zs := sizeLine_val
  obtain ⟨L0, more, s1, sm, dr, st⟩ := straight_drawn ws hs hw hw2 (by omega) hh2 hh3 h 6 3 cs 0 (by omega) hc (by omega)
  obtain ⟨w2, ew2⟩ : ∃ w, ws[2]? = some w := ⟨_, List.getElem?_eq_getElem (by omega)⟩
  have w2m := List.mem_of_getElem? ew2
  have a2 := atI_nat (ws.map PV.str) 2
  rw [List.getElem?_map, ew2] at a2
  have d0 := dr.depth
  have z0 := dr.size
  simp [sizeB] at z0
  obtain ⟨L, eL⟩ : ∃ L : Tm, L = if isSignT L0 then L0 else .sign w2 [(0, L0)] := ⟨_, rfl⟩
  have facts : L.In 0 ∧ L.depth ≤ 5 ∧ L.size ≤ 200 ∧ L.Ok (SW ws) (OW hs) ∧ strT L = true ∧ isSignT L = true := by
    rw [eL]
    by_cases c : isSignT L0 = true
    · rw [if_pos c]
      exact ⟨dr.scope, by omega, by omega, dr.ok, st, c⟩
    · rw [if_neg c]
      refine ⟨(Tm.In_sign _ _ _).mpr fun p hp => by simp at hp; subst hp; exact dr.scope, ?_, ?_, (Tm.Ok_sign _ _).mpr ⟨⟨w2m, by simp, by simp⟩, fun p hp => by simp at hp; subst hp; exact dr.ok⟩, by rw [strT_sign]; simp [st], rfl⟩
      · rw [Tm.depth_eq]; simp [Tm.inner, nmax]; omega
      · rw [Tm.size_eq]; simp [Tm.inner]; omega
  obtain ⟨f1, f2, f3, f4, f5, f6⟩ := facts
  obtain ⟨K, eK⟩ : ∃ K, K = (alikeA L []).2 := ⟨_, rfl⟩
  have gr := alike_grow nd L f4 [] (by simp) (by simp)
  rw [← eK] at gr
  obtain ⟨h1, eh1⟩ : ∃ h1, h1 = h ++ [kO []] := ⟨_, rfl⟩
  have k0 : h1[h.length]? = some (kO []) := by rw [eh1]; simp
  have lt1 : h.length < h1.length := by rw [eh1]; simp
  have hd := held_ok nd h.length 12 L [] h1 (by omega) (by omega) (by simp; omega) f4 (by simp) (by simp) k0
  rw [← eK] at hd
  obtain ⟨h2, eh2⟩ : ∃ h2, h2 = h1.set h.length (kO K) := ⟨_, rfl⟩
  rw [← eh2] at hd
  have k2 : h2[h.length]? = some (kO K) := by rw [eh2, List.getElem?_set_self lt1]
  have ow := ownK_perm K
  have Kl : K.length ≤ hs.length := by
    have := nodup_len gr.2.1.nd (l' := hs.map (·.1)) fun w hw => by
      obtain ⟨p, hp, rfl⟩ := List.mem_map.mp hw
      exact List.mem_map_of_mem (f := fun p : Str × Nat => p.1) (gr.2.1.sub p hp)
    simpa using this
  have owl := ow.length_eq
  have osub : ∀ p ∈ ownK K, p ∈ hs := fun p hp => gr.2.1.sub p (ow.mem_iff.mp hp)
  obtain ⟨R, rest, t1, -, dR⟩ := term_ok ws (ownK K) hw hw2 (by omega) (fun p hp => hh2 p (osub p hp)) (fun p hp => hh3 p (osub p hp)) h2 6 2 more 0 (by omega) (by omega)
  have rd := dR.depth
  have rz := dR.size
  simp [sizeB] at rz
  refine ⟨L, R, h2, ?_, ⟨f1, f2, f3, f4, f5, f6, dR.scope, by omega, by omega, ?_⟩⟩
  · obtain ⟨HV, eH⟩ : ∃ W : PV, W = .lst (hs.map holeV) := ⟨_, rfl⟩
    obtain ⟨N, eN⟩ : ∃ N : Option LV → Option LV → Option LV → Option LV → List PO → Mem, N = fun x3 x4 x5 x6 g => ⟨[some (.v (.lst (cs.map .int))), some (.v (.lst (ws.map .str))), some (.v HV), x3, x4, x5, x6], g⟩ := ⟨_, rfl⟩
    unfold f_law_rule
    refine dx_v rfl ?_
    unfold b_law_rule
    rw [← eH]
    rw [← eH] at s1
    simp at s1 a2 hd t1
    have wz : ws.length ≤ sizeLine := by omega
    refine xT (sq_nx (M' := N (some (.v L0.enc)) (some (.v (.lst (more.map .int)))) none none h) (by rw [eN]; simp [s1])) ?_
    refine xT (sq_nx (M' := N (some (.v L.enc)) (some (.v (.lst (more.map .int)))) none none h) ?_) ?_
    · cases L0 with
      | name k =>
        rw [eL]
        refine (if_tK (by rw [eN]; simp [Tm.enc_name, atI_0, str_ns])).trans ?_
        rw [eN]; simp [a2, wz, isSignT, Tm.enc_sign, encP]
      | sign w ps =>
        rw [eL]
        exact (if_fK (by rw [eN]; simp [Tm.enc_sign, atI_0])).trans rfl
      | hole w ts =>
        rw [eL]
        refine (if_tK (by rw [eN]; simp [Tm.enc_hole, atI_0, str_hs])).trans ?_
        rw [eN]; simp [a2, wz, isSignT, Tm.enc_sign, encP]
    have Kz : (toI K).length < 64 := by simp [toI]; omega
    have tl : (toI K).length = K.length := by simp [toI]
    refine xT (sq_nx (M' := N (some (.v L.enc)) (some (.v (.lst (more.map .int)))) (some (.v R.enc)) (some (.v (.lst (rest.map .int)))) h2) ?_) ?_
    · have hel : (h ++ [PO.dct [] []]) = h1 := by rw [eh1]; rfl
      have hel2 : h1.length = h.length + 1 := by rw [eh1]; simp
      unfold kO at k2
      have iK := itemsI_K K
      have ov := ownK_val K
      rw [eN]
      simp [hel, hd, k2, iK, Kz, ov, t1]
    · exact xE (by rw [eN]; simp <;> rfl)
  · rw [← eK]
    exact Ok_mono (fun p hp => ow.mem_iff.mp hp) dR.ok
end HF

end
section
set_option Elab.async false
set_option linter.all false
set_option maxRecDepth 20000
set_option autoImplicit false
namespace HF
open PySem PySem.Spec PyProof.Rows L2
/-! SP0: what is_rule says of the spoiled rules that are two terms. -/
theorem goA_app : ∀ (fs gs : List AF) (K : KN), goA (fs ++ gs) K = ((goA fs K).1 && (goA gs (goA fs K).2).1, (goA gs (goA fs K).2).2)
  | [], gs, K => by simp [goA]
  | f :: fs, gs, K => by
    have := goA_app fs gs (f K).2
    simp only [List.cons_append, goA, this, Bool.and_assoc]
theorem rule_true {ws : List Str} {hs : KN} {L R : Tm} (nd : (hs.map (·.1)).Nodup) (X : RuleOk ws hs L R) : ruleB L R = true := by
  have gr := alike_grow nd L X.Lok [] (by simp) (by simp)
  have sm := alike_same gr.2.1.nd R X.Rok
  unfold ruleB
  rw [Tm.inB_of X.Lin, Tm.inB_of X.Rin, X.Lsg, X.Lst, gr.1, sm]
  simp
theorem sp_head {L R : Tm} (h : isSignT L = false) : ruleB L R = false := by unfold ruleB; rw [h]; simp
theorem sp_str {L R : Tm} (h : strT L = false) : ruleB L R = false := by unfold ruleB; rw [h]; simp
theorem sp_inL {L R : Tm} (h : L.inB 0 = false) : ruleB L R = false := by unfold ruleB; rw [h]; simp
theorem sp_inR {L R : Tm} (h : R.inB 0 = false) : ruleB L R = false := by unfold ruleB; rw [h]; simp
theorem sp_alL {L R : Tm} (h : (alikeA L []).1 = false) : ruleB L R = false := by unfold ruleB; rw [h]; simp
theorem sp_alR {L R : Tm} (h : (alikeA R (alikeA L []).2).1 = false) : ruleB L R = false := by unfold ruleB; rw [h]; simp
theorem sp_len {L R : Tm} (h : (alikeA R (alikeA L []).2).2.length ≠ (alikeA L []).2.length) : ruleB L R = false := by unfold ruleB; rw [decide_eq_false h]; simp
/-- one more part at the end -/
def besT : Tm → Nat × Tm → Tm
  | .sign w ps, p => .sign w (ps ++ [p])
  | t, _ => t
theorem bes_str {L : Tm} {m : Nat} {t : Tm} (hs : isSignT L = true) (h : strT t = false) : strT (besT L (m, t)) = false := by
  cases L with
  | sign w ps =>
    show strT (.sign w (ps ++ [(m, t)])) = false
    rw [strT_sign, List.all_append]
    simp [h]
  | name k => cases hs
  | hole w ts => cases hs
theorem str_sig (w : Str) (m : Nat) {t : Tm} (h : strT t = false) : strT (.sign w [(m, t)]) = false := by rw [strT_sign]; simp [h]
theorem bes_in {L : Tm} {m : Nat} {t : Tm} (hs : isSignT L = true) (h : t.inB (0 + m) = false) : (besT L (m, t)).inB 0 = false := by
  cases L with
  | sign w ps =>
    show (Tm.sign w (ps ++ [(m, t)])).inB 0 = false
    rw [Tm.inB_sign, List.all_append]
    simp at h
    simp [h]
  | name k => cases hs
  | hole w ts => cases hs
theorem bes_sign {L : Tm} {p : Nat × Tm} (hs : isSignT L = true) : isSignT (besT L p) = true := by
  cases L with
  | sign w ps => rfl
  | name k => cases hs
  | hole w ts => cases hs
theorem bes_alike {L : Tm} {p : Nat × Tm} (hs : isSignT L = true) (K : KN) : alikeA (besT L p) K = ((alikeA L K).1 && (alikeA p.2 (alikeA L K).2).1, (alikeA p.2 (alikeA L K).2).2) := by
  cases L with
  | sign w ps =>
    show alikeA (.sign w (ps ++ [p])) K = _
    rw [alikeA_sign, alikeA_sign, List.map_append, goA_app]
    simp [goA]
  | name k => cases hs
  | hole w ts => cases hs
theorem told_bad (w : Str) (t : Tm) (h : isSignT t = true) : strT (.hole w [t]) = false := by
  rw [strT_hole]
  cases t with
  | sign v ps => rfl
  | name k => cases h
  | hole v ts => cases h
theorem told_two (w : Str) : strT (.hole w [.name 0, .name 0]) = false := by
  rw [strT_hole]
  unfold told
  simp [namesOf]
section
variable {ws : List Str} {hs : KN} {L R : Tm} (nd : (hs.map (·.1)).Nodup) (X : RuleOk ws hs L R) {w9 w3 : Str} (h9 : w9 ∉ hs.map (·.1))
include X nd h9
theorem K_no9 : lookN (alikeA L []).2 w9 = none := by
  have gr := alike_grow nd L X.Lok [] (by simp) (by simp)
  refine lookN_none.mpr fun z => h9 ?_
  obtain ⟨p, hp, e⟩ := List.mem_map.mp z
  exact List.mem_map.mpr ⟨p, gr.2.1.sub p hp, e⟩
/-- 4: a new hole on the right -/
theorem sp4 (pl : Tm) : ruleB L (.sign w3 [(0, R), (0, .hole w9 [])]) = false := by
  have gr := alike_grow nd L X.Lok [] (by simp) (by simp)
  have sm := alike_same gr.2.1.nd R X.Rok
  have n9 := K_no9 nd X h9
  refine sp_len ?_
  rw [alikeA_sign]
  simp only [List.map_cons, List.map_nil, goA, sm, alikeA_hole, n9]
  simp
/-- 6: a hole of two kinds on the left -/
theorem sp6 : ruleB (besT (besT L (0, .hole w9 [])) (0, .sign w3 [(1, .hole w9 [.name 0])])) R = false := by
  have n9 := K_no9 nd X h9
  refine sp_alL ?_
  rw [bes_alike (bes_sign X.Lsg), bes_alike X.Lsg]
  have e1 : alikeA (.hole w9 []) (alikeA L []).2 = (true, (alikeA L []).2 ++ [(w9, 0)]) := by rw [alikeA_hole, n9]; rfl
  have lk : ∀ K : KN, lookN K w9 = none → lookN (K ++ [(w9, 0)]) w9 = some 0 := by
    intro K
    induction K with
    | nil => intro _; simp [lookN]
    | cons q K ih =>
      obtain ⟨v, l⟩ := q
      intro h
      simp only [List.cons_append, lookN] at h ⊢
      split
      · rename_i e; rw [if_pos e] at h; cases h
      · rename_i e; rw [if_neg e] at h; exact ih h
  have e2 := lk _ n9
  simp only [e1]
  rw [alikeA_sign]
  simp only [List.map_cons, List.map_nil, goA, alikeA_hole, e2]
  simp
/-- 16: a new hole within a hole of the right -/
theorem sp16 (w : Str) (m : Nat) (hw : (w, m) ∈ (alikeA L []).2) (hm : 0 < m) : ruleB L (.hole w (List.replicate m (.hole w9 []))) = false := by
  have gr := alike_grow nd L X.Lok [] (by simp) (by simp)
  have n9 := K_no9 nd X h9
  obtain ⟨K, eK⟩ : ∃ K, K = (alikeA L []).2 := ⟨_, rfl⟩
  rw [← eK] at n9 hw gr
  refine sp_len ?_
  rw [← eK, alikeA_hole]
  have lw : lookN K w = some m := by
    cases e : lookN K w with
    | none => exact absurd (List.mem_map_of_mem (f := fun p : Str × Nat => p.1) hw) (lookN_none.mp e)
    | some l => rw [keyU gr.2.1.nd (lookN_mem e) hw]
  rw [lw]
  simp only [List.length_replicate, if_true, List.map_replicate]
  have grow : ∀ (n : Nat) (K : KN), K.length ≤ (goA (List.replicate n (alikeA (.hole w9 []))) K).2.length := by
    intro n
    induction n with
    | zero => intro K; exact Nat.le_refl _
    | succ n ih =>
      intro K
      rw [List.replicate_succ]
      simp only [goA]
      refine Nat.le_trans ?_ (ih _)
      rw [alikeA_hole]
      cases lookN K w9 with
      | none => simp [goA]
      | some l =>
        simp only
        split <;> simp [goA]
  obtain ⟨n, rfl⟩ : ∃ n, m = n + 1 := ⟨m - 1, by omega⟩
  rw [List.replicate_succ]
  simp only [goA]
  have e1 : alikeA (.hole w9 []) K = (true, K ++ [(w9, 0)]) := by rw [alikeA_hole, n9]; rfl
  rw [e1]
  have := grow n (K ++ [(w9, 0)])
  simp only [List.length_append, List.length_singleton] at this ⊢
  omega
end
section
variable {ws : List Str} {hs : KN} {L R : Tm} (nd : (hs.map (·.1)).Nodup) (X : RuleOk ws hs L R)
include X nd
/-- 5, 17: a hole of the left with another number of terms -/
theorem look_in {w : Str} {m : Nat} (hw : (w, m) ∈ (alikeA L []).2) : lookN (alikeA L []).2 w = some m := by
  have gr := alike_grow nd L X.Lok [] (by simp) (by simp)
  cases e : lookN (alikeA L []).2 w with
  | none => exact absurd (List.mem_map_of_mem (f := fun p : Str × Nat => p.1) hw) (lookN_none.mp e)
  | some l => rw [keyU gr.2.1.nd (lookN_mem e) hw]
theorem sp5 (w3 w : Str) (m : Nat) (pl : Tm) (hw : (w, m) ∈ (alikeA L []).2) : ruleB L (.sign w3 [(0, R), (0, .hole w (List.replicate (m + 1) pl))]) = false := by
  have gr := alike_grow nd L X.Lok [] (by simp) (by simp)
  have sm := alike_same gr.2.1.nd R X.Rok
  have lw := look_in nd X hw
  refine sp_alR ?_
  rw [alikeA_sign]
  simp only [List.map_cons, List.map_nil, goA, sm, alikeA_hole, lw, List.length_replicate]
  simp
theorem sp17 (w : Str) (m : Nat) (hw : (w, m) ∈ (alikeA L []).2) (hm : 0 < m) : ruleB L (.hole w (List.replicate m (.hole w []))) = false := by
  have lw := look_in nd X hw
  refine sp_alR ?_
  rw [alikeA_hole, lw]
  simp only [List.length_replicate, if_true, List.map_replicate]
  obtain ⟨n, rfl⟩ : ∃ n, m = n + 1 := ⟨m - 1, by omega⟩
  rw [List.replicate_succ]
  simp only [goA, alikeA_hole, lw]
  simp
end
theorem sp8 {L R : Tm} (w3 : Str) : ruleB L (.sign w3 [(0, R), (1, .name 1)]) = false := by
  refine sp_inR ?_
  rw [Tm.inB_sign]
  simp [Tm.inB_name]
theorem sp7 {L R : Tm} (hs : isSignT L = true) : ruleB (besT L (1, .name 1)) R = false := sp_inL (bes_in hs (by simp [Tm.inB_name]))
theorem sp2 {L R : Tm} (hs : isSignT L = true) (w9 : Str) (pl : Tm) (hp : isSignT pl = true) : ruleB (besT L (0, .hole w9 [pl])) R = false := sp_str (bes_str hs (told_bad _ _ hp))
theorem sp3 {L R : Tm} (hs : isSignT L = true) (w9 w3 : Str) : ruleB (besT L (0, .sign w3 [(1, .hole w9 [.name 0, .name 0])])) R = false := sp_str (bes_str hs (str_sig _ _ (told_two _)))
end HF

end
section
set_option Elab.async false
set_option linter.all false
set_option maxRecDepth 20000
set_option autoImplicit false
namespace HF
open PySem PySem.Spec PyProof.Rows L2
/-! SP1: what is_rule says of things that are no two terms. -/
theorem rule_not (x : PV) (h : List PO) (hx : (e1 (opIsi "tuple") (eVar 0)) ⟨[some (.v x), none, none, none, none], h⟩ = .ok (.v (.bl false)) ⟨[some (.v x), none, none, none, none], h⟩) : f_is_rule [x] h = .ok (.v (.bl false)) h := by
  unfold f_is_rule
  refine dx_v rfl ?_
  unfold b_is_rule
  exact xE (sq_ret ((if_tK (bOr_t (bNot_at (b := false) (bVal_at hx)))).trans (ret_at rfl)))
theorem rule_lst (xs : List PV) (h : List PO) : f_is_rule [.lst xs] h = .ok (.v (.bl false)) h := rule_not _ h (by simp [kitB_list_tuple])
theorem rule_non (h : List PO) : f_is_rule [.non] h = .ok (.v (.bl false)) h := rule_not _ h (by
  have : kitB "NoneType" "tuple" = some false := by decide +kernel
  simp [this])
theorem rule_int (i : Int) (h : List PO) : f_is_rule [.int i] h = .ok (.v (.bl false)) h := rule_not _ h (by simp [kitB_int_tuple])
theorem rule_str (s : Str) (h : List PO) : f_is_rule [.str s] h = .ok (.v (.bl false)) h := rule_not _ h (by simp [kitB_str_tuple])
theorem rule_len (xs : List PV) (h : List PO) (hl : xs.length ≠ 2) (hz : xs.length ≤ sizeLine) : f_is_rule [.tup xs] h = .ok (.v (.bl false)) h := by
  unfold f_is_rule
  refine dx_v rfl ?_
  unfold b_is_rule
  have c : ¬ ((xs.length : Int) = 2) := by omega
  exact xE (sq_ret ((if_tK (bOr_ft (M1 := ⟨[some (.v (.tup xs)), none, none, none, none], h⟩) (by simp [kitB_tuple_tuple]) (by simp [hz, c]))).trans (ret_at rfl)))
theorem rule_left (x y : PV) (h : List PO) (hx : f_is_term 22 [x, .int 0] h = .ok (.v (.bl false)) h) : f_is_rule [.tup [x, y]] h = .ok (.v (.bl false)) h := by
  have z2 : (2 : Nat) ≤ sizeLine := by rw [sizeLine_val]; omega
  unfold f_is_rule
  refine dx_v rfl ?_
  unfold b_is_rule
  refine xT (sq_nx (M' := ⟨[some (.v (.tup [x, y])), none, none, none, none], h⟩) ((if_f (by simp [kitB_tuple_tuple, z2])).trans rfl)) ?_
  refine xT (sq_nx (M' := ⟨[some (.v (.tup [x, y])), some (.v x), some (.v y), none, none], h⟩) (by simp)) ?_
  exact xE (sq_ret ((if_tK (bOr_t (bNot_at (b := false) (bVal_at (by simp [hx]))))).trans (ret_at rfl)))
theorem part_ok (p : Nat × Tm) (h : List PO) (hd : p.2.depth ≤ 9) (hs : p.2.size ≤ 100000) (hw : p.2.Wd) : f_is_part 21 [encP p, .int 0] h = .ok (.v (.bl (p.2.inB (0 + p.1)))) h := by
  have z2 : 2 ≤ sizeLine := by rw [sizeLine_val]; omega
  have := is_term_ok h 9 p.2 (0 + p.1) 20 hd (by omega) hs hw
  refine def_ret (M := ⟨[some (.v (encP p)), some (.v (.int 0))], h⟩) rfl ?_
  unfold b_is_part encP
  refine Eq.trans (sq_nx (by simp [kitB_tuple_tuple, atI_0, z2, is_count_ok] <;> rfl)) ?_
  simp at this
  simp [atI_0, atI_1, this]
theorem part_bool (x : PV) (h : List PO) : f_is_part 21 [.tup [.bl true, x], .int 0] h = .ok (.v (.bl false)) h := by
  have z2 : 2 ≤ sizeLine := by rw [sizeLine_val]; omega
  have cb : f_is_count [.bl true] h = .ok (.v (.bl false)) h := by
    unfold f_is_count runDef b_is_count
    simp [kitB_bool_int, kitB_bool_bool]
  unfold f_is_part
  refine dx_v rfl ?_
  unfold b_is_part
  exact xE (sq_ret ((if_tK (by simp [kitB_tuple_tuple, atI_0, z2, cb])).trans (ret_at rfl)))
theorem part_badw (v : PV) (h : List PO) (hv : f_is_word [v] h = .ok (.v (.bl false)) h) : f_is_part 21 [.tup [.int 0, .tup [.str "sign", v, .tup []]], .int 0] h = .ok (.v (.bl false)) h := by
  have z2 : 2 ≤ sizeLine := by rw [sizeLine_val]; omega
  have z3 : 3 ≤ sizeLine := by rw [sizeLine_val]; omega
  have it : f_is_term 20 [.tup [.str "sign", v, .tup []], .int 0] h = .ok (.v (.bl false)) h := by
    unfold f_is_term
    refine dx_v rfl ?_
    unfold b_is_term
    refine xT (sq_nx (M' := ⟨[some (.v (.tup [.str "sign", v, .tup []])), some (.v (.int 0)), none, none], h⟩) ((if_f (by simp [kitB_tuple_tuple, kitB_str_str, atI_0, z3])).trans rfl)) ?_
    refine xT (sq_nx (M' := ⟨[some (.v (.tup [.str "sign", v, .tup []])), some (.v (.int 0)), none, none], h⟩) ((if_f (by simp [atI_0, str_sn])).trans rfl)) ?_
    exact xE (sq_ret ((if_tK (by simp [atI_0, atI_1, z3, hv])).trans (ret_at rfl)))
  unfold f_is_part
  refine dx_v rfl ?_
  unfold b_is_part
  refine xT (sq_nx (M' := ⟨[some (.v (.tup [.int 0, .tup [.str "sign", v, .tup []]])), some (.v (.int 0))], h⟩) ((if_f (by simp [kitB_tuple_tuple, atI_0, z2, is_count_ok])).trans rfl)) ?_
  exact xE (by simp [atI_0, atI_1, it] <;> rfl)
theorem word_7 (h : List PO) : f_is_word [.int 7] h = .ok (.v (.bl false)) h := by
  unfold f_is_word runDef b_is_word
  simp [kitB_int_str]
theorem word_A (h : List PO) : f_is_word [.str "A"] h = .ok (.v (.bl false)) h := by
  have := is_word_ok (Str.ofString "A") h (by decide +kernel)
  rw [show wordB (Str.ofString "A") = false by decide +kernel] at this
  exact this
theorem word_e (h : List PO) : f_is_word [.str ""] h = .ok (.v (.bl false)) h := by
  have := is_word_ok (Str.ofString "") h (by decide +kernel)
  rw [show wordB (Str.ofString "") = false by decide +kernel] at this
  exact this
theorem word_9 (h : List PO) : f_is_word [.str "abcdefghi"] h = .ok (.v (.bl false)) h := by
  have := is_word_ok (Str.ofString "abcdefghi") h (by decide +kernel)
  rw [show wordB (Str.ofString "abcdefghi") = false by decide +kernel] at this
  exact this
/-- 12, 13: one part is none -/
theorem sign_bad (w : Str) (ps : List (Nat × Tm)) (x : PV) (h : List PO) (hw : WdOk w) (hl : ps.length ≤ 1000) (hp : ∀ p ∈ ps, p.2.depth ≤ 9 ∧ p.2.size ≤ 100000 ∧ p.2.Wd) (hx : f_is_part 21 [x, .int 0] h = .ok (.v (.bl false)) h) :
    f_is_term 22 [.tup [.str "sign", .str w, .tup (ps.map encP ++ [x])], .int 0] h = .ok (.v (.bl false)) h := by
  have z3 : 3 ≤ sizeLine := by rw [sizeLine_val]; omega
  have wk := is_word_ok w h (by have := hw.1; omega)
  rw [hw.2] at wk
  refine def_ret (M := ⟨[some (.v (.tup [.str "sign", .str w, .tup (ps.map encP ++ [x])])), some (.v (.int 0)), none, none], h⟩) rfl ?_
  unfold b_is_term
  refine Eq.trans (sq_nx (by simp [kitB_tuple_tuple, kitB_str_str, atI_0, z3] <;> rfl)) ?_
  refine Eq.trans (sq_nx (by simp [atI_0, str_sn] <;> rfl)) ?_
  refine Eq.trans (sq_nx (by simp [atI_0, atI_1, atI_2, z3, wk, kitB_tuple_tuple] <;> rfl)) ?_
  refine Eq.trans (sq_ret (M' := ⟨[some (.v (.tup [.str "sign", .str w, .tup (ps.map encP ++ [x])])), some (.v (.int 0)), none, none], h⟩) (e := .v (.bl false)) ?_) rfl
  have lc : ∀ all, lcL (.v .non) all (.nm 2) [2] bYes (toP (eCall (f_is_part 21) [] (aCons (toP (eVar 2)) (aCons (toP (eVar 1)) aNil)))) (ps.map encP ++ [x]) [] ⟨[some (.v (.tup [.str "sign", .str w, .tup (ps.map encP ++ [x])])), some (.v (.int 0)), none, none], h⟩ = some ((ps.map fun p => .bl (p.2.inB (0 + p.1))) ++ [.bl false], ⟨[some (.v (.tup [.str "sign", .str w, .tup (ps.map encP ++ [x])])), some (.v (.int 0)), none, none], h⟩) := fun all => by
    obtain ⟨N, eN⟩ : ∃ N : Mem, N = ⟨[some (.v (.tup [.str "sign", .str w, .tup (ps.map encP ++ [x])])), some (.v (.int 0)), none, none], h⟩ := ⟨_, rfl⟩
    rw [← eN]
    have key : ∀ (l : List (Nat × Tm)) (acc : List PV), (∀ p ∈ l, p ∈ ps) → lcL (.v .non) all (.nm 2) [2] bYes (toP (eCall (f_is_part 21) [] (aCons (toP (eVar 2)) (aCons (toP (eVar 1)) aNil)))) (l.map encP ++ [x]) acc N = some (acc ++ ((l.map fun p => .bl (p.2.inB (0 + p.1))) ++ [.bl false]), N) := by
      intro l
      induction l with
      | nil =>
        intro acc _
        simp only [List.map_nil, List.nil_append]
        rw [lc_go (p := .bl false) (M' := N) (by rw [eN]; simp [hx]), lcL_nil _ _ (show Chk (.v .non) all _ from trivial)]
      | cons p l ih =>
        intro acc hm
        obtain ⟨a, b, c⟩ := hp p (hm p List.mem_cons_self)
        have po := part_ok p h a b c
        simp only [List.map_cons, List.cons_append]
        rw [lc_go (p := .bl (p.2.inB (0 + p.1))) (M' := N) (by rw [eN]; simp at po; simp [po]), ih _ fun q hq => hm q (List.mem_cons_of_mem _ hq)]
        simp
    exact key ps [] fun _ h => h
  have ab := asBls_fun (fun b : Bool => b) ((ps.map fun p => p.2.inB (0 + p.1)) ++ [false])
  rw [List.map_append, List.map_map] at ab
  refine (if_tK (by simp [atI_0])).trans (ret_at ?_)
  have el := eLc_at (s := srcOf (e2 opIx (eVar 0) (eC (.int 2)))) (pt := .nm 2) (vs := [2]) (t := bYes) (f := toP (eCall (f_is_part 21) [] (aCons (toP (eVar 2)) (aCons (toP (eVar 1)) aNil)))) (M := ⟨[some (.v (.tup [.str "sign", .str w, .tup (ps.map encP ++ [x])])), some (.v (.int 0)), none, none], h⟩) (M1 := ⟨[some (.v (.tup [.str "sign", .str w, .tup (ps.map encP ++ [x])])), some (.v (.int 0)), none, none], h⟩) (sr := (.v .non, ps.map encP ++ [x])) (by simp [atI_2]) (Eq.trans rfl (lc _))
  have ab2 : asBls ((ps.map fun p => PV.bl (p.2.inB (0 + p.1))) ++ [.bl false]) = some ((ps.map fun p => p.2.inB (0 + p.1)) ++ [false]) := by
    simpa [Function.comp_def] using ab
  simp only [e1, el, Res.bnd, opAll, asLst, Option.bind_some, ab2, Option.map_some, optR]
  simp
/-- 14: a list for the parts -/
theorem sign_lst (w : Str) (xs : List PV) (h : List PO) (hw : WdOk w) : f_is_term 22 [.tup [.str "sign", .str w, .lst xs], .int 0] h = .ok (.v (.bl false)) h := by
  have z3 : 3 ≤ sizeLine := by rw [sizeLine_val]; omega
  have wk := is_word_ok w h (by have := hw.1; omega)
  rw [hw.2] at wk
  unfold f_is_term
  refine dx_v rfl ?_
  unfold b_is_term
  refine xT (sq_nx (M' := ⟨[some (.v (.tup [.str "sign", .str w, .lst xs])), some (.v (.int 0)), none, none], h⟩) ((if_f (by simp [kitB_tuple_tuple, kitB_str_str, atI_0, z3])).trans rfl)) ?_
  refine xT (sq_nx (M' := ⟨[some (.v (.tup [.str "sign", .str w, .lst xs])), some (.v (.int 0)), none, none], h⟩) ((if_f (by simp [atI_0, str_sn])).trans rfl)) ?_
  exact xE (sq_ret ((if_tK (by simp [atI_0, atI_1, atI_2, z3, wk, kitB_list_tuple])).trans (ret_at rfl)))
end HF

end
section
set_option Elab.async false
set_option linter.all false
set_option maxRecDepth 20000
set_option maxHeartbeats 2000000
set_option autoImplicit false
namespace HF
open PySem PySem.Spec PyProof.Rows L2 HFS
/-! SP2: the walk of _law_spoiled. -/
def besV (lw : Str) (xs : List PV) (x : PV) : PV := .tup [.str "sign", .str lw, .tup (xs ++ [.tup [.int 0, x]])]
theorem beside_ok (lw : Str) (xs : List PV) (x : PV) (h : List PO) (hl : xs.length ≤ 1000) : f_law_beside [.tup [.str "sign", .str lw, .tup xs], x] h = .ok (.v (besV lw xs x)) h := by
  have z1 : xs.length + 1 ≤ sizeLine := by rw [sizeLine_val]; omega
  unfold f_law_beside
  refine dx_v rfl ?_
  unfold b_law_beside
  exact xE (by simp [atI_1, atI_2, z1, besV] <;> rfl)
def nm (k : Nat) : PV := .tup [.str "name", .int k]
def hol (w : Str) (xs : List PV) : PV := .tup [.str "hole", .str w, .tup xs]
def sgn (w : Str) (xs : List PV) : PV := .tup [.str "sign", .str w, .tup xs]
def pt (m : Nat) (x : PV) : PV := .tup [.int (m : Nat), x]
def cand0 (w0 w3 w9 lw : Str) (xs : List PV) (R W bad odd : PV) : List PV :=
  [.tup [hol w9 [], R], .tup [nm 0, R], .tup [besV lw xs (hol w9 [sgn w0 []]), R], .tup [besV lw xs (sgn w3 [pt 1 (hol w9 [nm 0, nm 0])]), R],
   .tup [sgn lw xs, sgn w3 [pt 0 R, pt 0 (hol w9 [])]], .tup [sgn lw xs, sgn w3 [pt 0 R, pt 0 W]], .tup [besV lw (xs ++ [pt 0 (hol w9 [])]) (sgn w3 [pt 1 (hol w9 [nm 0])]), R],
   .tup [sgn lw (xs ++ [pt 1 (nm 1)]), R], .tup [sgn lw xs, sgn w3 [pt 0 R, pt 1 (nm 1)]],
   .lst [sgn lw xs, R], .tup [sgn lw xs, R, R], .tup [sgn lw xs],
   .tup [sgn lw (xs ++ [.tup [.bl true, sgn w0 []]]), R], .tup [besV lw xs (.tup [.str "sign", bad, .tup []]), R], .tup [.tup [.str "sign", .str lw, .lst xs], R], odd]
theorem pick_bad (num : Int) : ∃ v, atI [PV.str "A", .str "", .str "abcdefghi", .int 7] (num / 16 % 4) = some v ∧ ∀ h, f_is_word [v] h = .ok (.v (.bl false)) h := by
  have h1 := Int.emod_nonneg (num / 16) (b := 4) (by omega)
  have h2 := Int.emod_lt_of_pos (num / 16) (b := 4) (by omega)
  obtain ⟨n, hn⟩ := Int.eq_ofNat_of_zero_le h1
  rw [hn, atI_nat]
  have : n = 0 ∨ n = 1 ∨ n = 2 ∨ n = 3 := by omega
  rcases this with rfl | rfl | rfl | rfl
  · exact ⟨_, rfl, word_A⟩
  · exact ⟨_, rfl, word_e⟩
  · exact ⟨_, rfl, word_9⟩
  · exact ⟨_, rfl, word_7⟩
theorem pick_odd (num : Int) : ∃ v, atI [PV.non, .int 5, .str "rule", .tup []] (num / 16 % 4) = some v ∧ ∀ h, f_is_rule [v] h = .ok (.v (.bl false)) h := by
  have h1 := Int.emod_nonneg (num / 16) (b := 4) (by omega)
  have h2 := Int.emod_lt_of_pos (num / 16) (b := 4) (by omega)
  obtain ⟨n, hn⟩ := Int.eq_ofNat_of_zero_le h1
  rw [hn, atI_nat]
  have : n = 0 ∨ n = 1 ∨ n = 2 ∨ n = 3 := by omega
  rcases this with rfl | rfl | rfl | rfl
  · exact ⟨_, rfl, rule_non⟩
  · exact ⟨_, rfl, rule_int 5⟩
  · exact ⟨_, rfl, rule_str _⟩
  · exact ⟨_, rfl, fun h => rule_len [] h (by simp) (by rw [sizeLine_val]; simp)⟩
theorem filter_told : ∀ hs : List (Str × Nat), hs.filterMap (fun p => if 0 < p.2 then some (holeV p) else none) = (hs.filter fun p => decide (0 < p.2)).map holeV
  | [] => rfl
  | p :: l => by
    by_cases z : 0 < p.2
    · rw [List.filterMap_cons_some (by rw [if_pos z]), List.filter_cons_of_pos (by simpa using z), filter_told l]; rfl
    · rw [List.filterMap_cons_none (by rw [if_neg z]), List.filter_cons_of_neg (by simpa using z), filter_told l]
theorem rep_flat (n : Nat) (x : PV) : (List.replicate n [x]).flatten = List.replicate n x := by
  induction n with
  | zero => rfl
  | succ n ih => rw [List.replicate_succ, List.flatten_cons, ih]; rfl
/-- what is picked -/
theorem spoiled_walk (ws : List Str) (hs : KN) (lw : Str) (lps : List (Nat × Tm)) (R : Tm) (num : Int) (h : List PO) (nd : (hs.map (·.1)).Nodup) (hl : hs.length ≤ 60) (hh2 : ∀ p ∈ hs, p.2 ≤ 3) (hh3 : ∀ p ∈ hs, PyData.strOk p.1 = true) (X : RuleOk ws hs (.sign lw lps) R) (hn : 0 ≤ num) (hw : ws.length = 10) (w0 w3 w9 : Str) (e0 : ws[0]? = some w0) (e3 : ws[3]? = some w3) (e9 : ws[9]? = some w9) :
    ∃ (Y : List PV) (y W bad odd : PV) (h' : List PO), f_law_spoiled [.tup [(Tm.sign lw lps).enc, R.enc], .int num, .lst (ws.map .str)] h = .ok (.v y) h' ∧ y ∈ Y ∧ (∀ h, f_is_word [bad] h = .ok (.v (.bl false)) h) ∧ (∀ h, f_is_rule [odd] h = .ok (.v (.bl false)) h) ∧
      (W = hol w9 [] ∨ ∃ w m, (w, m) ∈ (alikeA (.sign lw lps) []).2 ∧ W = hol w (List.replicate (m + 1) (sgn w0 []))) ∧
      (Y = cand0 w0 w3 w9 lw (lps.map encP) R.enc W bad odd ∨ ∃ w m, (w, m) ∈ (alikeA (.sign lw lps) []).2 ∧ 0 < m ∧ Y = cand0 w0 w3 w9 lw (lps.map encP) R.enc W bad odd ++ [.tup [sgn lw (lps.map encP), hol w (List.replicate m (hol w9 []))], .tup [sgn lw (lps.map encP), hol w (List.replicate m (hol w []))]]) := by
  have zs := sizeLine_val
  obtain ⟨L, eL⟩ : ∃ L, L = Tm.sign lw lps := ⟨_, rfl⟩
  obtain ⟨K, eK⟩ : ∃ K, K = (alikeA L []).2 := ⟨_, rfl⟩
  rw [← eL] at X
  have gr := alike_grow nd L X.Lok [] (by simp) (by simp)
  rw [← eK] at gr
  obtain ⟨h1, eh1⟩ : ∃ h1, h1 = h ++ [kO []] := ⟨_, rfl⟩
  have k0 : h1[h.length]? = some (kO []) := by rw [eh1]; simp
  have lt1 : h.length < h1.length := by rw [eh1]; simp
  have hd := held_ok nd h.length 12 L [] h1 (by have := X.Ldep; omega) (by have := X.Lsz; omega) (by have := X.Lsz; simp; omega) X.Lok (by simp) (by simp) k0
  rw [← eK] at hd
  obtain ⟨h2, eh2⟩ : ∃ h2, h2 = h1.set h.length (kO K) := ⟨_, rfl⟩
  rw [← eh2] at hd
  have k2 : h2[h.length]? = some (kO K) := by rw [eh2, List.getElem?_set_self lt1]
  have ow := ownK_perm K
  have Kl : K.length ≤ hs.length := by
    have := nodup_len gr.2.1.nd (l' := hs.map (·.1)) fun w hw => by
      obtain ⟨p, hp, rfl⟩ := List.mem_map.mp hw
      exact List.mem_map_of_mem (f := fun p : Str × Nat => p.1) (gr.2.1.sub p hp)
    simpa using this
  have owl := ow.length_eq
  have osub : ∀ p ∈ ownK K, p ∈ hs := fun p hp => gr.2.1.sub p (ow.mem_iff.mp hp)
  have il := X.Lsz
  have ill := L.inner_len
  have xl : (lps.map encP).length ≤ 200 := by
    rw [eL] at ill il
    simp [Tm.inner] at ill ⊢; omega
  obtain ⟨XS, eXS⟩ : ∃ XS, XS = lps.map encP := ⟨_, rfl⟩
  have LE : L.enc = sgn lw XS := by rw [eL, Tm.enc_sign, eXS]; rfl
  rw [← eXS] at xl ⊢
  rw [← eL, LE]
  rw [LE] at hd
  obtain ⟨RV, eRV⟩ : ∃ RV, RV = R.enc := ⟨_, rfl⟩
  rw [← eRV]
  obtain ⟨bad, ab, bb⟩ := pick_bad num
  obtain ⟨odd, ao, bo⟩ := pick_odd num
  have a0 := atI_nat (ws.map PV.str) 0
  rw [List.getElem?_map, e0] at a0
  have a3 := atI_nat (ws.map PV.str) 3
  rw [List.getElem?_map, e3] at a3
  have a9 := atI_nat (ws.map PV.str) 9
  rw [List.getElem?_map, e9] at a9
  simp at a0 a3 a9 hd
  have wz : ws.length ≤ sizeLine := by omega
  have Kz : (toI K).length < 64 := by simp [toI]; omega
  have iK := itemsI_K K
  have ov := ownK_val K
  obtain ⟨OW, eOW⟩ : ∃ O : PV, O = .lst ((ownK K).map holeV) := ⟨_, rfl⟩
  obtain ⟨N, eN⟩ : ∃ N : Option LV → Option LV → Option LV → Option LV → Option LV → Option LV → Option LV → Option LV → Option LV → Option LV → List PO → Mem, N = fun x5 x6 x7 x8 x9 x10 x11 x12 x13 x15 g => ⟨[some (.v (.tup [sgn lw XS, RV])), some (.v (.int num)), some (.v (.lst (ws.map .str))), some (.v (sgn lw XS)), some (.v RV), x5, x6, x7, x8, x9, x10, x11, x12, x13, none, x15], g⟩ := ⟨_, rfl⟩
  obtain ⟨b5, eb5⟩ : ∃ b, b = some (LV.v OW) := ⟨_, rfl⟩
  obtain ⟨b6, eb6⟩ : ∃ b, b = some (LV.v (sgn w0 [])) := ⟨_, rfl⟩
  have okO : ∀ p ∈ ownK K, PyData.strOk p.1 = true := fun p hp => hh3 p (osub p hp)
  have cn : (b2 cpNe (eVar 5) (eLst aNil)) (N b5 b6 (some (.v (.str w9))) none none none none none none none h2) = .ok (!(ownK K).isEmpty) (N b5 b6 (some (.v (.str w9))) none none none none none none none h2) := b2_at (x := .v OW) (y := .fr (.lst [])) (M1 := N b5 b6 (some (.v (.str w9))) none none none none none none none h2) (by rw [eN, eb5]; simp) (by rw [eN]; simp) (by rw [eOW]; exact cn_emptyH _ okO _)
  have st5 : ∃ (x7 x8 : Option LV) (W : PV), (sIf (b2 cpNe (eVar 5) (eLst aNil)) (sSeq (sPat (.tp [7, 8]) (toP (e2 opIx (eVar 5) (e2 opMod (e2 opDiv (eVar 1) (eC (.int 16))) (e1 opLen (eVar 5)))))) (sSet 9 (toP (eTup (aCons (toP (eC (.str "hole"))) (aCons (toP (eVar 7)) (aCons (toP (e2 opTupRep (eTup (aCons (toP (eVar 6)) aNil)) (e2 opAdd (eVar 8) (eC (.int 1))))) aNil))))))) (sSet 9 (toP (eTup (aCons (toP (eC (.str "hole"))) (aCons (toP (eVar 7)) (aCons (toP (eTup aNil)) aNil))))))) (N b5 b6 (some (.v (.str w9))) none none none none none none none h2) = .nx (N b5 b6 x7 x8 (some (.v W)) none none none none none h2) ∧ (W = hol w9 [] ∨ ∃ w m, (w, m) ∈ K ∧ W = hol w (List.replicate (m + 1) (sgn w0 []))) := by
    by_cases c : ownK K = []
    · refine ⟨some (.v (.str w9)), none, hol w9 [], (if_f (cn.trans (by rw [c]; rfl))).trans (by rw [eN]; simp [hol]), .inl rfl⟩
    · have hl : 0 < (ownK K).length := List.length_pos_iff.mpr c
      have j1 := Int.emod_nonneg (num / 16) (b := ((ownK K).length : Int)) (by omega)
      have j2 := Int.emod_lt_of_pos (num / 16) (b := ((ownK K).length : Int)) (by omega)
      obtain ⟨w, m, hj⟩ : ∃ w m, (ownK K)[(num / 16 % (ownK K).length).toNat]? = some (w, m) := ⟨_, _, List.getElem?_eq_getElem (by omega)⟩
      have hm := List.mem_of_getElem? hj
      have m3 : m ≤ 3 := hh2 _ (osub _ hm)
      have hat : atI ((ownK K).map holeV) (num / 16 % (ownK K).length) = some (.tup [.str w, .int m]) := by
        have := atI_nat ((ownK K).map holeV) (num / 16 % (ownK K).length).toNat
        rw [Int.toNat_of_nonneg j1, List.getElem?_map, hj] at this
        exact this
      have lz : (ownK K).length ≤ sizeLine := by omega
      refine ⟨some (.v (.str w)), some (.v (.int m)), hol w (List.replicate (m + 1) (sgn w0 [])), (if_t (cn.trans (by rw [emp_false c]; rfl))).trans ?_, .inr ⟨w, m, ow.mem_iff.mp hm, rfl⟩⟩
      refine (sq_nx (M' := N b5 b6 (some (.v (.str w))) (some (.v (.int m))) none none none none none none h2) (by rw [eN, eb5, eOW]; simp [hat, hl, lz])).trans ?_
      have q1 : (1 : Int) ≤ (m : Int) + 1 := by omega
      have q2 : (m : Int) + 1 ≤ 1000 := by omega
      have q3 : ((m : Int) + 1).toNat = m + 1 := by omega
      have fl : (List.replicate (m + 1) [sgn w0 []]).flatten = List.replicate (m + 1) (sgn w0 []) := by
        generalize m + 1 = n
        induction n with
        | zero => rfl
        | succ n ih => rw [List.replicate_succ, List.flatten_cons, ih]; rfl
      rw [eN, eb6]
      simp [q1, q2, q3, fl, hol]
  obtain ⟨x7, x8, W, s5, hW⟩ := st5
  obtain ⟨b10, eb10⟩ : ∃ b, b = some (LV.v (hol w9 [nm 0, nm 0])) := ⟨_, rfl⟩
  obtain ⟨b11, eb11⟩ : ∃ b, b = some (LV.v (.lst [hol w9 [], sgn w3 [pt 1 (hol w9 [nm 0])]])) := ⟨_, rfl⟩
  obtain ⟨x9, ex9⟩ : ∃ b, b = some (LV.v W) := ⟨_, rfl⟩
  rw [← ex9] at s5
  obtain ⟨Y0, eY0⟩ : ∃ Y, Y = cand0 w0 w3 w9 lw XS RV W bad odd := ⟨_, rfl⟩
  have zx : XS.length + 1 ≤ sizeLine := by omega
  have zx1 : XS.length ≤ sizeLine := by omega
  have b1 := fun x g => beside_ok lw XS x g (by omega)
  have b2' := fun x g => beside_ok lw (XS ++ [pt 0 (hol w9 [])]) x g (by simp; omega)
  obtain ⟨T, eT⟩ : ∃ T : KN, T = (ownK K).filter fun p => decide (0 < p.2) := ⟨_, rfl⟩
  have tail : ∃ (Y : List PV) (y : PV), EndAt ((sSeq (sSet 13 (toP (eLc (srcOf (eVar 5)) (.nm 14) [14] (b2 cpGt (e2 opIx (eVar 14) (eC (.int 1))) (eC (.int 0))) (toP (eVar 14))))) (sSeq (sIf (b2 cpNe (eVar 13) (eLst aNil)) (sSeq (sPat (.tp [15, 8]) (toP (e2 opIx (eVar 13) (e2 opMod (e2 opDiv (eVar 1) (eC (.int 16))) (e1 opLen (eVar 13)))))) (sSeq (sExp (eM1 opApp (eVar 12) (pV (toP (eTup (aCons (toP (eVar 3)) (aCons (toP (eTup (aCons (toP (eC (.str "hole"))) (aCons (toP (eVar 15)) (aCons (toP (e2 opTupRep (eTup (aCons (toP (eTup (aCons (toP (eC (.str "hole"))) (aCons (toP (e2 opIx (eVar 2) (eC (.int 9)))) (aCons (toP (eTup aNil)) aNil))))) aNil)) (eVar 8))) aNil))))) aNil))))))) (sExp (eM1 opApp (eVar 12) (pV (toP (eTup (aCons (toP (eVar 3)) (aCons (toP (eTup (aCons (toP (eC (.str "hole"))) (aCons (toP (eVar 15)) (aCons (toP (e2 opTupRep (eTup (aCons (toP (eTup (aCons (toP (eC (.str "hole"))) (aCons (toP (eVar 15)) (aCons (toP (eTup aNil)) aNil))))) aNil)) (eVar 8))) aNil))))) aNil))))))))) sNop) (sRet (e2 opIx (eVar 12) (e2 opMod (eVar 1) (e1 opLen (eVar 12))))))) (N b5 b6 x7 x8 x9 b10 b11 (some (.own (.lst Y0))) none none h2)) (.v y) h2 ∧ y ∈ Y ∧ (Y = Y0 ∨ ∃ w m, (w, m) ∈ K ∧ 0 < m ∧ Y = Y0 ++ [.tup [sgn lw XS, hol w (List.replicate m (hol w9 []))], .tup [sgn lw XS, hol w (List.replicate m (hol w []))]]) := by
    have Yl : Y0.length = 16 := by rw [eY0]; rfl
    have g16 : (16 : Nat) ≤ sizeLine := by omega
    have g18 : (18 : Nat) ≤ sizeLine := by omega
    have okT : ∀ p ∈ T, PyData.strOk p.1 = true := fun p hp => okO p (by rw [eT] at hp; exact (List.mem_filter.mp hp).1)
    have lc : ∀ all, lcL (.v .non) all (.nm 14) [14] (b2 cpGt (e2 opIx (eVar 14) (eC (.int 1))) (eC (.int 0))) (toP (eVar 14)) ((ownK K).map holeV) [] (N b5 b6 x7 x8 x9 b10 b11 (some (.own (.lst Y0))) none none h2) = some (T.map holeV, N b5 b6 x7 x8 x9 b10 b11 (some (.own (.lst Y0))) none none h2) := fun all => by
      have := lcL_fm0 (all := all) (pt := .nm 14) (vs := [14]) (t := b2 cpGt (e2 opIx (eVar 14) (eC (.int 1))) (eC (.int 0))) (f := toP (eVar 14)) (N b5 b6 x7 x8 x9 b10 b11 (some (.own (.lst Y0))) none none h2) holeV (fun p => if 0 < p.2 then some (holeV p) else none) (ownK K) [] fun p hp => by
        by_cases z : 0 < p.2
        · rw [if_pos z, eN]; simp [holeV, atI_1, z]
        · have z0 : p.2 = 0 := by omega
          rw [if_neg z, eN]; simp [holeV, atI_1, z0]
      rw [this, filter_told, ← eT]; rfl
    have s13 : (sSet 13 (toP (eLc (srcOf (eVar 5)) (.nm 14) [14] (b2 cpGt (e2 opIx (eVar 14) (eC (.int 1))) (eC (.int 0))) (toP (eVar 14))))) (N b5 b6 x7 x8 x9 b10 b11 (some (.own (.lst Y0))) none none h2) = .nx (N b5 b6 x7 x8 x9 b10 b11 (some (.own (.lst Y0))) (some (.v (.lst (T.map holeV)))) none h2) := by
      have el := eLc_at (s := srcOf (eVar 5)) (pt := .nm 14) (vs := [14]) (t := b2 cpGt (e2 opIx (eVar 14) (eC (.int 1))) (eC (.int 0))) (f := toP (eVar 14)) (M := N b5 b6 x7 x8 x9 b10 b11 (some (.own (.lst Y0))) none none h2) (M1 := N b5 b6 x7 x8 x9 b10 b11 (some (.own (.lst Y0))) none none h2) (sr := (.v .non, (ownK K).map holeV)) (by rw [eN, eb5, eOW]; simp) (Eq.trans (by rw [eN]; rfl) (lc _))
      simp only [sSet, toP, el, Res.bnd, Res.st]
      rw [eN]; simp
    have cn13 : (b2 cpNe (eVar 13) (eLst aNil)) (N b5 b6 x7 x8 x9 b10 b11 (some (.own (.lst Y0))) (some (.v (.lst (T.map holeV)))) none h2) = .ok (!T.isEmpty) (N b5 b6 x7 x8 x9 b10 b11 (some (.own (.lst Y0))) (some (.v (.lst (T.map holeV)))) none h2) := b2_at (x := .v (.lst (T.map holeV))) (y := .fr (.lst [])) (M1 := N b5 b6 x7 x8 x9 b10 b11 (some (.own (.lst Y0))) (some (.v (.lst (T.map holeV)))) none h2) (by rw [eN]; simp) (by rw [eN]; simp) (cn_emptyH T okT _)
    have pickY : ∀ Y : List PV, 0 < Y.length → ∃ y, atI Y (num % (Y.length : Int)) = some y ∧ y ∈ Y := fun Y hY => by
      have j1 := Int.emod_nonneg num (b := (Y.length : Int)) (by omega)
      have j2 := Int.emod_lt_of_pos num (b := (Y.length : Int)) (by omega)
      obtain ⟨j, hj⟩ := Int.eq_ofNat_of_zero_le j1
      obtain ⟨y, ey⟩ : ∃ y, Y[j]? = some y := ⟨_, List.getElem?_eq_getElem (by omega)⟩
      exact ⟨y, by rw [hj, atI_nat]; exact ey, List.mem_of_getElem? ey⟩
    by_cases c : T = []
    · obtain ⟨y, ya, ym⟩ := pickY Y0 (by omega)
      rw [Yl] at ya
      refine ⟨Y0, y, ?_, ym, .inl rfl⟩
      refine xT (sq_nx s13) ?_
      refine xT (sq_nx ((if_f (cn13.trans (by rw [c]; rfl))).trans rfl)) ?_
      simp at ya
      exact xE (r := (N b5 b6 x7 x8 x9 b10 b11 (some (.own (.lst Y0))) (some (.v (.lst (T.map holeV)))) none h2).r) (ret_at (M1 := N b5 b6 x7 x8 x9 b10 b11 (some (.own (.lst Y0))) (some (.v (.lst (T.map holeV)))) none h2) (p := y) (by rw [eN]; simp [Yl, g16, ya, c]) |>.trans (by rw [eN]))
    · have hl : 0 < T.length := List.length_pos_iff.mpr c
      have j1 := Int.emod_nonneg (num / 16) (b := (T.length : Int)) (by omega)
      have j2 := Int.emod_lt_of_pos (num / 16) (b := (T.length : Int)) (by omega)
      obtain ⟨w, m, hj⟩ : ∃ w m, T[(num / 16 % T.length).toNat]? = some (w, m) := ⟨_, _, List.getElem?_eq_getElem (by omega)⟩
      have hm := List.mem_of_getElem? hj
      rw [eT] at hm
      obtain ⟨hm1, hm2⟩ := List.mem_filter.mp hm
      have hm2 : 0 < m := by simpa using hm2
      have m3 : m ≤ 3 := hh2 _ (osub _ hm1)
      have hat : atI (T.map holeV) (num / 16 % T.length) = some (.tup [.str w, .int m]) := by
        have := atI_nat (T.map holeV) (num / 16 % T.length).toNat
        rw [Int.toNat_of_nonneg j1, List.getElem?_map, hj] at this
        exact this
      have lz : T.length ≤ sizeLine := by
        have : T.length ≤ (ownK K).length := by rw [eT]; exact List.length_filter_le _ _
        omega
      obtain ⟨z1, ez1⟩ : ∃ z, z = PV.tup [sgn lw XS, hol w (List.replicate m (hol w9 []))] := ⟨_, rfl⟩
      obtain ⟨z2, ez2⟩ : ∃ z, z = PV.tup [sgn lw XS, hol w (List.replicate m (hol w []))] := ⟨_, rfl⟩
      have Yl2 : (Y0 ++ [z1, z2]).length = 18 := by simp [Yl]
      obtain ⟨y, ya, ym⟩ := pickY (Y0 ++ [z1, z2]) (by omega)
      rw [Yl2] at ya
      have q1 : (1 : Int) ≤ (m : Int) := by omega
      have q2 : (m : Int) ≤ 1000 := by omega
      have gy : (16 : Nat) < sizeLine := by omega
      have gy2 : (17 : Nat) < sizeLine := by omega
      refine ⟨Y0 ++ [z1, z2], y, ?_, ym, .inr ⟨w, m, ow.mem_iff.mp hm1, hm2, by rw [ez1, ez2]⟩⟩
      refine xT (sq_nx s13) ?_
      refine xT (sq_nx (M' := N b5 b6 x7 (some (.v (.int m))) x9 b10 b11 (some (.own (.lst (Y0 ++ [z1, z2])))) (some (.v (.lst (T.map holeV)))) (some (.v (.str w))) h2) ((if_t (cn13.trans (by rw [emp_false c]; rfl))).trans ?_)) ?_
      · refine (sq_nx (M' := N b5 b6 x7 (some (.v (.int m))) x9 b10 b11 (some (.own (.lst Y0))) (some (.v (.lst (T.map holeV)))) (some (.v (.str w))) h2) (by rw [eN]; simp [hat, hl, lz])).trans ?_
        refine (sq_nx (M' := N b5 b6 x7 (some (.v (.int m))) x9 b10 b11 (some (.own (.lst (Y0 ++ [z1])))) (some (.v (.lst (T.map holeV)))) (some (.v (.str w))) h2) (by rw [eN, ez1]; simp [a9, wz, q1, q2, rep_flat, hol, Yl, gy])).trans ?_
        rw [eN, ez2]; simp [q1, q2, rep_flat, hol, Yl, gy2]
      · simp at ya
        exact xE (r := (N b5 b6 x7 (some (.v (.int m))) x9 b10 b11 (some (.own (.lst (Y0 ++ [z1, z2])))) (some (.v (.lst (T.map holeV)))) (some (.v (.str w))) h2).r) (ret_at (M1 := N b5 b6 x7 (some (.v (.int m))) x9 b10 b11 (some (.own (.lst (Y0 ++ [z1, z2])))) (some (.v (.lst (T.map holeV)))) (some (.v (.str w))) h2) (p := y) (by rw [eN]; simp [Yl, g18, ya]) |>.trans (by rw [eN]))
  obtain ⟨Y, y, tl, yY, hY⟩ := tail
  refine ⟨Y, y, W, bad, odd, h2, ?_, yY, bb, bo, by rw [← eK]; exact hW, by rw [← eY0, ← eK]; exact hY⟩
  unfold f_law_spoiled
  refine dx_v rfl ?_
  unfold b_law_spoiled
  have hel : (h ++ [PO.dct [] []]) = h1 := by rw [eh1]; rfl
  refine xT (sq_nx (M' := N none none none none none none none none none none h) (by rw [eN]; simp)) ?_
  refine xT (sq_nx (M' := N b5 none none none none none none none none none h2) (by
    unfold kO at k2
    rw [eN, eb5, eOW]
    simp [hel, hd, k2, iK, Kz, ov])) ?_
  refine xT (sq_nx (M' := N b5 b6 none none none none none none none none h2) (by rw [eN, eb6]; simp [a0, wz, sgn])) ?_
  refine xT (sq_nx (M' := N b5 b6 (some (.v (.str w9))) none none none none none none none h2) (by rw [eN]; simp [a9, wz])) ?_
  refine xT (sq_nx s5) ?_
  refine xT (sq_nx (M' := N b5 b6 x7 x8 x9 b10 none none none none h2) (by rw [eN, eb10]; simp [a9, wz, hol, nm])) ?_
  refine xT (sq_nx (M' := N b5 b6 x7 x8 x9 b10 b11 none none none h2) (by rw [eN, eb11]; simp [a9, a3, wz, hol, nm, sgn, pt])) ?_
  refine xT (sq_nx (M' := N b5 b6 x7 x8 x9 b10 b11 (some (.own (.lst (Y0.take 2)))) none none h2) (by rw [eN, eY0]; simp [a9, wz, hol, nm, cand0])) ?_
  have gl2 : (2 : Nat) < sizeLine := by omega
  have gm2 : (2 : Nat) ≤ sizeLine := by omega
  have gl3 : (3 : Nat) < sizeLine := by omega
  have gm3 : (3 : Nat) ≤ sizeLine := by omega
  have gl4 : (4 : Nat) < sizeLine := by omega
  have gm4 : (4 : Nat) ≤ sizeLine := by omega
  have gl5 : (5 : Nat) < sizeLine := by omega
  have gm5 : (5 : Nat) ≤ sizeLine := by omega
  have gl6 : (6 : Nat) < sizeLine := by omega
  have gm6 : (6 : Nat) ≤ sizeLine := by omega
  have gl7 : (7 : Nat) < sizeLine := by omega
  have gm7 : (7 : Nat) ≤ sizeLine := by omega
  have gl8 : (8 : Nat) < sizeLine := by omega
  have gm8 : (8 : Nat) ≤ sizeLine := by omega
  have gl9 : (9 : Nat) < sizeLine := by omega
  have gm9 : (9 : Nat) ≤ sizeLine := by omega
  have gl10 : (10 : Nat) < sizeLine := by omega
  have gm10 : (10 : Nat) ≤ sizeLine := by omega
  have gl11 : (11 : Nat) < sizeLine := by omega
  have gm11 : (11 : Nat) ≤ sizeLine := by omega
  have gl12 : (12 : Nat) < sizeLine := by omega
  have gm12 : (12 : Nat) ≤ sizeLine := by omega
  have gl13 : (13 : Nat) < sizeLine := by omega
  have gm13 : (13 : Nat) ≤ sizeLine := by omega
  have gl14 : (14 : Nat) < sizeLine := by omega
  have gm14 : (14 : Nat) ≤ sizeLine := by omega
  have gl15 : (15 : Nat) < sizeLine := by omega
  have gm15 : (15 : Nat) ≤ sizeLine := by omega
  have gl16 : (16 : Nat) < sizeLine := by omega
  have gm16 : (16 : Nat) ≤ sizeLine := by omega
  have gl17 : (17 : Nat) < sizeLine := by omega
  have gm17 : (17 : Nat) ≤ sizeLine := by omega
  have gl18 : (18 : Nat) < sizeLine := by omega
  have gm18 : (18 : Nat) ≤ sizeLine := by omega
  simp only [sgn, hol, nm, pt, besV] at b1 b2'
  simp at b2'
  refine xT (sq_nx (M' := N b5 b6 x7 x8 x9 b10 b11 (some (.own (.lst (Y0.take 3)))) none none h2) (by rw [eN, eb6, eb10, eb11, ex9, eY0]; simp [atI_0, atI_1, atI_2, a3, a9, wz, zx, zx1, b1, b2', cand0, sgn, hol, nm, pt, besV, ab, gl2, gm2, gl3, gm3, gl4, gm4, gl5, gm5, gl6, gm6, gl7, gm7, gl8, gm8, gl9, gm9, gl10, gm10, gl11, gm11, gl12, gm12, gl13, gm13, gl14, gm14, gl15, gm15, gl16, gm16, gl17, gm17, gl18, gm18])) ?_
  refine xT (sq_nx (M' := N b5 b6 x7 x8 x9 b10 b11 (some (.own (.lst (Y0.take 4)))) none none h2) (by rw [eN, eb6, eb10, eb11, ex9, eY0]; simp [atI_0, atI_1, atI_2, a3, a9, wz, zx, zx1, b1, b2', cand0, sgn, hol, nm, pt, besV, ab, gl2, gm2, gl3, gm3, gl4, gm4, gl5, gm5, gl6, gm6, gl7, gm7, gl8, gm8, gl9, gm9, gl10, gm10, gl11, gm11, gl12, gm12, gl13, gm13, gl14, gm14, gl15, gm15, gl16, gm16, gl17, gm17, gl18, gm18])) ?_
  refine xT (sq_nx (M' := N b5 b6 x7 x8 x9 b10 b11 (some (.own (.lst (Y0.take 5)))) none none h2) (by rw [eN, eb6, eb10, eb11, ex9, eY0]; simp [atI_0, atI_1, atI_2, a3, a9, wz, zx, zx1, b1, b2', cand0, sgn, hol, nm, pt, besV, ab, gl2, gm2, gl3, gm3, gl4, gm4, gl5, gm5, gl6, gm6, gl7, gm7, gl8, gm8, gl9, gm9, gl10, gm10, gl11, gm11, gl12, gm12, gl13, gm13, gl14, gm14, gl15, gm15, gl16, gm16, gl17, gm17, gl18, gm18])) ?_
  refine xT (sq_nx (M' := N b5 b6 x7 x8 x9 b10 b11 (some (.own (.lst (Y0.take 6)))) none none h2) (by rw [eN, eb6, eb10, eb11, ex9, eY0]; simp [atI_0, atI_1, atI_2, a3, a9, wz, zx, zx1, b1, b2', cand0, sgn, hol, nm, pt, besV, ab, gl2, gm2, gl3, gm3, gl4, gm4, gl5, gm5, gl6, gm6, gl7, gm7, gl8, gm8, gl9, gm9, gl10, gm10, gl11, gm11, gl12, gm12, gl13, gm13, gl14, gm14, gl15, gm15, gl16, gm16, gl17, gm17, gl18, gm18])) ?_
  refine xT (sq_nx (M' := N b5 b6 x7 x8 x9 b10 b11 (some (.own (.lst (Y0.take 7)))) none none h2) (by rw [eN, eb6, eb10, eb11, ex9, eY0]; simp [atI_0, atI_1, atI_2, a3, a9, wz, zx, zx1, b1, b2', cand0, sgn, hol, nm, pt, besV, ab, gl2, gm2, gl3, gm3, gl4, gm4, gl5, gm5, gl6, gm6, gl7, gm7, gl8, gm8, gl9, gm9, gl10, gm10, gl11, gm11, gl12, gm12, gl13, gm13, gl14, gm14, gl15, gm15, gl16, gm16, gl17, gm17, gl18, gm18])) ?_
  refine xT (sq_nx (M' := N b5 b6 x7 x8 x9 b10 b11 (some (.own (.lst (Y0.take 8)))) none none h2) (by rw [eN, eb6, eb10, eb11, ex9, eY0]; simp [atI_0, atI_1, atI_2, a3, a9, wz, zx, zx1, b1, b2', cand0, sgn, hol, nm, pt, besV, ab, gl2, gm2, gl3, gm3, gl4, gm4, gl5, gm5, gl6, gm6, gl7, gm7, gl8, gm8, gl9, gm9, gl10, gm10, gl11, gm11, gl12, gm12, gl13, gm13, gl14, gm14, gl15, gm15, gl16, gm16, gl17, gm17, gl18, gm18])) ?_
  refine xT (sq_nx (M' := N b5 b6 x7 x8 x9 b10 b11 (some (.own (.lst (Y0.take 9)))) none none h2) (by rw [eN, eb6, eb10, eb11, ex9, eY0]; simp [atI_0, atI_1, atI_2, a3, a9, wz, zx, zx1, b1, b2', cand0, sgn, hol, nm, pt, besV, ab, gl2, gm2, gl3, gm3, gl4, gm4, gl5, gm5, gl6, gm6, gl7, gm7, gl8, gm8, gl9, gm9, gl10, gm10, gl11, gm11, gl12, gm12, gl13, gm13, gl14, gm14, gl15, gm15, gl16, gm16, gl17, gm17, gl18, gm18])) ?_
  refine xT (sq_nx (M' := N b5 b6 x7 x8 x9 b10 b11 (some (.own (.lst (Y0.take 12)))) none none h2) (by rw [eN, eb6, eb10, eb11, ex9, eY0]; simp [atI_0, atI_1, atI_2, a3, a9, wz, zx, zx1, b1, b2', cand0, sgn, hol, nm, pt, besV, ab, gl2, gm2, gl3, gm3, gl4, gm4, gl5, gm5, gl6, gm6, gl7, gm7, gl8, gm8, gl9, gm9, gl10, gm10, gl11, gm11, gl12, gm12, gl13, gm13, gl14, gm14, gl15, gm15, gl16, gm16, gl17, gm17, gl18, gm18])) ?_
  refine xT (sq_nx (M' := N b5 b6 x7 x8 x9 b10 b11 (some (.own (.lst (Y0.take 13)))) none none h2) (by rw [eN, eb6, eb10, eb11, ex9, eY0]; simp [atI_0, atI_1, atI_2, a3, a9, wz, zx, zx1, b1, b2', cand0, sgn, hol, nm, pt, besV, ab, gl2, gm2, gl3, gm3, gl4, gm4, gl5, gm5, gl6, gm6, gl7, gm7, gl8, gm8, gl9, gm9, gl10, gm10, gl11, gm11, gl12, gm12, gl13, gm13, gl14, gm14, gl15, gm15, gl16, gm16, gl17, gm17, gl18, gm18])) ?_
  refine xT (sq_nx (M' := N b5 b6 x7 x8 x9 b10 b11 (some (.own (.lst (Y0.take 14)))) none none h2) (by rw [eN, eb6, eb10, eb11, ex9, eY0]; simp [atI_0, atI_1, atI_2, a3, a9, wz, zx, zx1, b1, b2', cand0, sgn, hol, nm, pt, besV, ab, gl2, gm2, gl3, gm3, gl4, gm4, gl5, gm5, gl6, gm6, gl7, gm7, gl8, gm8, gl9, gm9, gl10, gm10, gl11, gm11, gl12, gm12, gl13, gm13, gl14, gm14, gl15, gm15, gl16, gm16, gl17, gm17, gl18, gm18])) ?_
  refine xT (sq_nx (M' := N b5 b6 x7 x8 x9 b10 b11 (some (.own (.lst (Y0.take 15)))) none none h2) (by rw [eN, eb6, eb10, eb11, ex9, eY0]; simp [atI_0, atI_1, atI_2, a3, a9, wz, zx, zx1, b1, b2', cand0, sgn, hol, nm, pt, besV, ab, gl2, gm2, gl3, gm3, gl4, gm4, gl5, gm5, gl6, gm6, gl7, gm7, gl8, gm8, gl9, gm9, gl10, gm10, gl11, gm11, gl12, gm12, gl13, gm13, gl14, gm14, gl15, gm15, gl16, gm16, gl17, gm17, gl18, gm18])) ?_
  refine xT (sq_nx (M' := N b5 b6 x7 x8 x9 b10 b11 (some (.own (.lst Y0))) none none h2) (by rw [eN, eb6, eb10, eb11, ex9, eY0]; simp [ao, cand0, gl2, gm2, gl3, gm3, gl4, gm4, gl5, gm5, gl6, gm6, gl7, gm7, gl8, gm8, gl9, gm9, gl10, gm10, gl11, gm11, gl12, gm12, gl13, gm13, gl14, gm14, gl15, gm15, gl16, gm16, gl17, gm17, gl18, gm18])) ?_
  rw [eN] at tl ⊢
  exact tl
end HF

end
section
set_option Elab.async false
set_option linter.all false
set_option maxRecDepth 20000
set_option maxHeartbeats 1000000
set_option autoImplicit false
namespace HF
open PySem PySem.Spec PyProof.Rows L2
theorem ok_wd {ws : List Str} {hs : KN} (h1 : ∀ w ∈ ws, WdOk w) (h2 : ∀ p ∈ hs, WdOk p.1) {t : Tm} : t.Ok (SW ws) (OW hs) → t.Wd := by
  induction t using Tm.ind with
  | hn k => intro _; exact (Tm.Ok_name _).mpr trivial
  | hs w ps ih => intro h; have h' := (Tm.Ok_sign w ps).mp h; exact (Tm.Ok_sign w ps).mpr ⟨h1 _ h'.1.1, fun p hp => ih p hp (h'.2 p hp)⟩
  | hh w ts ih => intro h; have h' := (Tm.Ok_hole w ts).mp h; exact (Tm.Ok_hole w ts).mpr ⟨h2 _ h'.1, fun p hp => ih p hp (h'.2 p hp)⟩
def Bad (x : PV) : Prop := ∀ g : List PO, ∃ g', f_is_rule [x] g = .ok (.v (.bl false)) g'
theorem bad_tm {L R : Tm} (x : PV) (e : x = .tup [L.enc, R.enc]) (hL : L.Wd) (hR : R.Wd) (dL : L.depth ≤ 11) (dR : R.depth ≤ 11) (sL : L.size ≤ 1000) (sR : R.size ≤ 1000) (hb : ruleB L R = false) : Bad x := fun g => by
  obtain ⟨g', h⟩ := is_rule_ok L R g hL hR dL dR sL sR
  rw [hb] at h
  exact ⟨g', e ▸ h⟩
theorem wordS_inj (c : Int) {i j : Nat} (hi : i < 26) (hj : j < 26) (e : wordS c i = wordS c j) : i = j := by
  have e1 : wordL c i = wordL c j := by
    have : (wordL c i).toArray = (wordL c j).toArray := by unfold wordS at e; exact Str.mk.inj e
    simpa using this
  unfold wordL at e1
  have q2 := (List.append_inj e1 rfl).2
  simp only [List.singleton_append, List.cons.injEq] at q2
  have l1 := Int.emod_nonneg (mixI c 12 + 7 * i) (b := 26) (by omega)
  have l2 := Int.emod_nonneg (mixI c 12 + 7 * j) (b := 26) (by omega)
  have := q2.1
  omega
theorem wordS_wd (c : Int) (k : Nat) : WdOk (wordS c k) := by
  have ll := lenW_eq c
  have m1 := Int.emod_nonneg (mixI c 1) (b := 7) (by omega)
  have m2 := Int.emod_lt_of_pos (mixI c 1) (b := 7) (by omega)
  have sl : (stemL c).length = lenW c := by simp [stemL]
  have sp : spotW c < lenW c := by
    have h1 := Int.emod_nonneg (mixI c 11) (b := (lenW c : Int)) (by omega)
    have h2 := Int.emod_lt_of_pos (mixI c 11) (b := (lenW c : Int)) (by omega)
    unfold spotW; omega
  have wl : (wordL c k).length = lenW c := by
    unfold wordL
    simp only [List.length_append, List.length_take, List.length_drop, List.length_singleton, sl]
    omega
  have wl2 : (wordS c k).length = lenW c := by simp [wordS, Str.length, wl]
  have st : ∀ x ∈ stemL c, 97 ≤ x ∧ x ≤ 122 := fun x hx => by
    unfold stemL at hx
    obtain ⟨m, _, rfl⟩ := List.mem_map.mp hx
    have h1 := Int.emod_nonneg (mixI c (2 + m)) (b := 26) (by omega)
    have h2 := Int.emod_lt_of_pos (mixI c (2 + m)) (b := 26) (by omega)
    omega
  refine ⟨by omega, ?_⟩
  unfold wordB
  have g1 : 1 ≤ (wordS c k).length := by omega
  have g2 : (wordS c k).length ≤ 8 := by omega
  simp only [g1, g2, decide_true, Bool.true_and, List.all_eq_true, decide_eq_true_eq]
  intro x hx
  have : 97 ≤ x ∧ x ≤ 122 := by
    simp only [wordS] at hx
    unfold wordL at hx
    rcases List.mem_append.mp hx with hx | hx
    · exact st x (List.mem_of_mem_take hx)
    · rcases List.mem_append.mp hx with hx | hx
      · simp at hx
        have h1 := Int.emod_nonneg (mixI c 12 + 7 * k) (b := 26) (by omega)
        have h2 := Int.emod_lt_of_pos (mixI c 12 + 7 * k) (b := 26) (by omega)
        omega
      · exact st x (List.mem_of_mem_drop hx)
  unfold abcL
  exact List.mem_map.mpr ⟨x - 97, List.mem_range.mpr (by omega), by omega⟩
structure TF (d z : Nat) (t : Tm) : Prop where
  wd : t.Wd
  dep : t.depth ≤ d
  sz : t.size ≤ z
theorem tf_name (k : Nat) : TF 1 1 (.name k) := ⟨(Tm.Ok_name _).mpr trivial, by rw [Tm.depth_name]; omega, by rw [Tm.size_name]; omega⟩
theorem tf_sign {w : Str} (hw : WdOk w) {d z : Nat} (ps : List (Nat × Tm)) (h : ∀ p ∈ ps, TF d z p.2) : TF (d + 1) (ps.length * z + 1) (.sign w ps) := by
  refine ⟨(Tm.Ok_sign _ _).mpr ⟨hw, fun p hp => (h p hp).wd⟩, ?_, ?_⟩
  · rw [Tm.depth_eq]
    have : nmax ((Tm.sign w ps).inner.map fun p => p.2.depth) ≤ d := nmax_le fun x hx => by
      obtain ⟨p, hp, rfl⟩ := List.mem_map.mp hx
      exact (h p hp).dep
    omega
  · rw [Tm.size_eq]
    have := sum_le_mul (b := z) (l := (Tm.sign w ps).inner.map fun p => p.2.size) fun x hx => by
      obtain ⟨p, hp, rfl⟩ := List.mem_map.mp hx
      exact (h p hp).sz
    rw [List.length_map] at this
    have e : (Tm.sign w ps).inner.length = ps.length := rfl
    rw [e] at this
    omega
theorem tf_hole {w : Str} (hw : WdOk w) {d z : Nat} (ts : List Tm) (h : ∀ t ∈ ts, TF d z t) : TF (d + 1) (ts.length * z + 1) (.hole w ts) := by
  refine ⟨(Tm.Ok_hole _ _).mpr ⟨hw, fun p hp => (h p hp).wd⟩, ?_, ?_⟩
  · rw [Tm.depth_eq]
    have : nmax ((Tm.hole w ts).inner.map fun p => p.2.depth) ≤ d := nmax_le fun x hx => by
      simp only [Tm.inner, List.map_map] at hx
      obtain ⟨p, hp, rfl⟩ := List.mem_map.mp hx
      exact (h p hp).dep
    omega
  · rw [Tm.size_eq]
    have := sum_le_mul (b := z) (l := (Tm.hole w ts).inner.map fun p => p.2.size) fun x hx => by
      simp only [Tm.inner, List.map_map] at hx
      obtain ⟨p, hp, rfl⟩ := List.mem_map.mp hx
      exact (h p hp).sz
    rw [List.length_map] at this
    have e : (Tm.hole w ts).inner.length = ts.length := by simp [Tm.inner]
    rw [e] at this
    omega
theorem TF.mono {d z d' z' : Nat} {t : Tm} (h : TF d z t) (h1 : d ≤ d') (h2 : z ≤ z') : TF d' z' t := ⟨h.wd, Nat.le_trans h.dep h1, Nat.le_trans h.sz h2⟩
theorem tf_bes {lw : Str} {lps : List (Nat × Tm)} {d z : Nat} (hL : TF 5 z (.sign lw lps)) {p : Nat × Tm} (hp : TF 4 d p.2) : TF 5 (z + d) (besT (.sign lw lps) p) := by
  have hw := (Tm.Ok_sign _ _).mp hL.wd
  show TF 5 (z + d) (.sign lw (lps ++ [p]))
  refine ⟨(Tm.Ok_sign _ _).mpr ⟨hw.1, fun q hq => ?_⟩, ?_, ?_⟩
  · rcases List.mem_append.mp hq with hq | hq
    · exact hw.2 q hq
    · simp at hq; subst hq; exact hp.wd
  · rw [Tm.depth_eq]
    have : nmax ((Tm.sign lw (lps ++ [p])).inner.map fun p => p.2.depth) ≤ 4 := nmax_le fun x hx => by
      obtain ⟨q, hq, rfl⟩ := List.mem_map.mp hx
      rcases List.mem_append.mp (show q ∈ lps ++ [p] from hq) with hq | hq
      · have := Tm.depth_lt (t := .sign lw lps) (p := q) hq
        have := hL.dep
        omega
      · simp at hq; subst hq; exact hp.dep
    omega
  · have h1 := Tm.size_eq (.sign lw lps)
    have h2 := Tm.size_eq (.sign lw (lps ++ [p]))
    simp only [Tm.inner, List.map_append, List.sum_append, List.map_cons, List.map_nil, List.sum_cons, List.sum_nil] at h1 h2
    have := hL.sz
    have := hp.sz
    omega
end HF

end
section
set_option Elab.async false
set_option linter.all false
set_option maxRecDepth 20000
set_option maxHeartbeats 1000000
set_option autoImplicit false
namespace HF
open PySem PySem.Spec PyProof.Rows L2
theorem bad_tf {L R : Tm} {z z' : Nat} (x : PV) (e : x = .tup [L.enc, R.enc]) (hL : TF 11 z L) (hR : TF 11 z' R) (h1 : z ≤ 1000) (h2 : z' ≤ 1000) (hb : ruleB L R = false) : Bad x :=
  bad_tm x e hL.wd hR.wd hL.dep hR.dep (Nat.le_trans hL.sz h1) (Nat.le_trans hR.sz h2) hb
theorem cand_bad {ws : List Str} {hs : KN} {lw : Str} {lps : List (Nat × Tm)} {R : Tm} (nd : (hs.map (·.1)).Nodup) (hh2 : ∀ p ∈ hs, p.2 ≤ 3) (X : RuleOk ws hs (.sign lw lps) R) (hw : ∀ w ∈ ws, WdOk w) (hhw : ∀ p ∈ hs, WdOk p.1) {w0 w3 w9 : Str} (o0 : WdOk w0) (o3 : WdOk w3) (o9 : WdOk w9) (h9 : w9 ∉ hs.map (·.1))
    (W bad odd : PV) (hbad : ∀ h, f_is_word [bad] h = .ok (.v (.bl false)) h) (hodd : ∀ h, f_is_rule [odd] h = .ok (.v (.bl false)) h)
    (hW : W = hol w9 [] ∨ ∃ w m, (w, m) ∈ (alikeA (.sign lw lps) []).2 ∧ W = hol w (List.replicate (m + 1) (sgn w0 []))) :
    (∀ y ∈ cand0 w0 w3 w9 lw (lps.map encP) R.enc W bad odd, Bad y) ∧ ∀ w m, (w, m) ∈ (alikeA (.sign lw lps) []).2 → 0 < m → Bad (.tup [sgn lw (lps.map encP), hol w (List.replicate m (hol w9 []))]) ∧ Bad (.tup [sgn lw (lps.map encP), hol w (List.replicate m (hol w []))]) := by
  have zs := sizeLine_val
  have gr := alike_grow nd _ X.Lok [] (by simp) (by simp)
  have tL : TF 5 200 (.sign lw lps) := ⟨ok_wd hw hhw X.Lok, X.Ldep, X.Lsz⟩
  have tR : TF 3 200 R := ⟨ok_wd hw (fun p hp => hhw p (gr.2.1.sub p hp)) X.Rok, X.Rdep, X.Rsz⟩
  have tL11 := tL.mono (d' := 11) (z' := 200) (by omega) (by omega)
  have tR11 := tR.mono (d' := 11) (z' := 200) (by omega) (by omega)
  have LE : (Tm.sign lw lps).enc = sgn lw (lps.map encP) := by rw [Tm.enc_sign]; rfl
  have lwd := (Tm.Ok_sign _ _).mp tL.wd
  have ll : lps.length ≤ 1000 := by have := (Tm.sign lw lps).inner_len; simp [Tm.inner] at this; have := X.Lsz; omega
  have hp9 : ∀ p ∈ lps, p.2.depth ≤ 9 ∧ p.2.size ≤ 100000 ∧ p.2.Wd := fun p hp => by
    have h1 := Tm.depth_lt (t := .sign lw lps) (p := p) hp
    have h2 := Tm.size_lt (t := .sign lw lps) (p := p) hp
    have := X.Ldep
    have := X.Lsz
    exact ⟨by omega, by omega, lwd.2 p hp⟩
  have t9 : TF 1 1 (.hole w9 []) := by simpa using tf_hole o9 (d := 0) (z := 0) [] (by simp)
  have t0 : TF 1 1 (.sign w0 []) := by simpa using tf_sign o0 (d := 0) (z := 0) [] (by simp)
  have tn := fun k => tf_name k
  have E9 : (Tm.hole w9 []).enc = hol w9 [] := by rw [Tm.enc_hole]; rfl
  have E0 : (Tm.sign w0 []).enc = sgn w0 [] := by rw [Tm.enc_sign]; rfl
  have En : ∀ k, (Tm.name k).enc = nm k := fun k => by rw [Tm.enc_name]; rfl
  have bE : ∀ (m : Nat) (t : Tm), (besT (.sign lw lps) (m, t)).enc = sgn lw (lps.map encP ++ [pt m t.enc]) := fun m t => by
    show (Tm.sign lw (lps ++ [(m, t)])).enc = _
    rw [Tm.enc_sign, List.map_append]; rfl
  have sg : isSignT (.sign lw lps) = true := rfl
  constructor
  · intro y hy
    simp only [cand0, List.mem_cons, List.not_mem_nil, or_false] at hy
    rcases hy with rfl | rfl | rfl | rfl | rfl | rfl | rfl | rfl | rfl | rfl | rfl | rfl | rfl | rfl | rfl | rfl
    · exact bad_tf _ (by rw [E9]) (t9.mono (by omega) (Nat.le_refl _)) tR11 (by omega) (by omega) (sp_head rfl)
    · exact bad_tf _ (by rw [En]) ((tn 0).mono (by omega) (Nat.le_refl _)) tR11 (by omega) (by omega) (sp_head rfl)
    · have tt := tf_hole o9 (d := 1) (z := 1) [.sign w0 []] (by simpa using t0)
      exact bad_tf (L := besT (.sign lw lps) (0, .hole w9 [.sign w0 []])) _ (by rw [bE, Tm.enc_hole]; simp [besV, Tm.enc_sign, pt, hol, sgn]) ((tf_bes tL (d := 2) (tt.mono (by omega) (by simp))).mono (by omega) (Nat.le_refl _)) tR11 (by omega) (by omega) (sp2 sg _ _ rfl)
    · have tt := tf_hole o9 (d := 1) (z := 1) [.name 0, .name 0] (by simpa using tn 0)
      have tu := tf_sign o3 (d := 2) (z := 3) [(1, .hole w9 [.name 0, .name 0])] (by simpa using tt)
      exact bad_tf (L := besT (.sign lw lps) (0, .sign w3 [(1, .hole w9 [.name 0, .name 0])])) _ (by rw [bE, Tm.enc_sign]; simp [besV, encP, Tm.enc_hole, En, pt, hol, sgn]) ((tf_bes tL (d := 4) (tu.mono (by omega) (by simp))).mono (by omega) (Nat.le_refl _)) tR11 (by omega) (by omega) (sp3 sg _ _)
    · have tu := tf_sign o3 (d := 3) (z := 200) [(0, R), (0, .hole w9 [])] (by simp; exact ⟨tR, t9.mono (by omega) (by omega)⟩)
      exact bad_tf (L := .sign lw lps) (R := .sign w3 [(0, R), (0, .hole w9 [])]) _ (by rw [LE, Tm.enc_sign]; simp [encP, E9, pt, sgn]) tL11 (tu.mono (by omega) (Nat.le_refl _)) (by omega) (by simp) (sp4 nd X h9 R)
    · rcases hW with rfl | ⟨w, m, hm, rfl⟩
      · have tu := tf_sign o3 (d := 3) (z := 200) [(0, R), (0, .hole w9 [])] (by simp; exact ⟨tR, t9.mono (by omega) (by omega)⟩)
        exact bad_tf (L := .sign lw lps) (R := .sign w3 [(0, R), (0, .hole w9 [])]) _ (by rw [LE, Tm.enc_sign]; simp [encP, E9, pt, sgn]) tL11 (tu.mono (by omega) (Nat.le_refl _)) (by omega) (by simp) (sp4 nd X h9 R)
      · have m3 := hh2 _ (gr.2.1.sub _ hm)
        simp only at m3
        have tv := tf_hole (hhw _ (gr.2.1.sub _ hm)) (d := 1) (z := 1) (List.replicate (m + 1) (.sign w0 [])) (fun t ht => by rw [List.eq_of_mem_replicate ht]; exact t0)
        rw [List.length_replicate] at tv
        have tu := tf_sign o3 (d := 3) (z := 200) [(0, R), (0, .hole w (List.replicate (m + 1) (.sign w0 [])))] (by simp; exact ⟨tR, tv.mono (by omega) (by omega)⟩)
        exact bad_tf (L := .sign lw lps) (R := .sign w3 [(0, R), (0, .hole w (List.replicate (m + 1) (.sign w0 [])))]) _ (by rw [LE, Tm.enc_sign]; simp [encP, Tm.enc_hole, E0, pt, sgn, hol]) tL11 (tu.mono (by omega) (Nat.le_refl _)) (by omega) (by simp) (sp5 nd X w3 w m (.sign w0 []) hm)
    · have tt := tf_hole o9 (d := 1) (z := 1) [.name 0] (by simpa using tn 0)
      have tu := tf_sign o3 (d := 2) (z := 2) [(1, .hole w9 [.name 0])] (by simpa using tt)
      have tb := tf_bes (p := (0, .hole w9 [])) tL (d := 1) (t9.mono (by omega) (by omega))
      exact bad_tf (L := besT (besT (.sign lw lps) (0, .hole w9 [])) (0, .sign w3 [(1, .hole w9 [.name 0])])) _ (by
        show _ = PV.tup [(Tm.sign lw ((lps ++ [(0, .hole w9 [])]) ++ [(0, .sign w3 [(1, .hole w9 [.name 0])])])).enc, _]
        rw [Tm.enc_sign]; simp [besV, encP, Tm.enc_hole, Tm.enc_sign, En, pt, hol, sgn]) ((tf_bes (lps := lps ++ [(0, .hole w9 [])]) tb (d := 3) (p := (0, .sign w3 [(1, .hole w9 [.name 0])])) (tu.mono (by omega) (by simp))).mono (by omega) (Nat.le_refl _)) tR11 (by omega) (by omega) (sp6 nd X h9)
    · exact bad_tf (L := besT (.sign lw lps) (1, .name 1)) _ (by rw [bE, En]) ((tf_bes tL (d := 1) ((tn 1).mono (by omega) (Nat.le_refl _))).mono (by omega) (Nat.le_refl _)) tR11 (by omega) (by omega) (sp7 sg)
    · have tu := tf_sign o3 (d := 3) (z := 200) [(0, R), (1, .name 1)] (by simp; exact ⟨tR, (tn 1).mono (by omega) (by omega)⟩)
      exact bad_tf (L := .sign lw lps) (R := .sign w3 [(0, R), (1, .name 1)]) _ (by rw [LE, Tm.enc_sign]; simp [encP, En, pt, sgn]) tL11 (tu.mono (by omega) (Nat.le_refl _)) (by omega) (by simp) (sp8 w3)
    · exact fun g => ⟨g, rule_lst _ g⟩
    · exact fun g => ⟨g, rule_len _ g (by simp) (by simp; omega)⟩
    · exact fun g => ⟨g, rule_len _ g (by simp) (by simp; omega)⟩
    · exact fun g => ⟨g, rule_left _ _ g (sign_bad lw lps _ g lwd.1 ll hp9 (part_bool _ g))⟩
    · exact fun g => ⟨g, rule_left _ _ g (sign_bad lw lps _ g lwd.1 ll hp9 (part_badw bad g (hbad g)))⟩
    · exact fun g => ⟨g, rule_left _ _ g (sign_lst lw _ g lwd.1)⟩
    · exact fun g => ⟨g, hodd g⟩
  · intro w m hm h0
    have m3 := hh2 _ (gr.2.1.sub _ hm)
    simp only at m3
    have ow := hhw _ (gr.2.1.sub _ hm)
    simp only at ow
    have tw : TF 1 1 (.hole w []) := by simpa using tf_hole ow (d := 0) (z := 0) [] (by simp)
    have ta := tf_hole ow (d := 1) (z := 1) (List.replicate m (.hole w9 [])) (fun t ht => by rw [List.eq_of_mem_replicate ht]; exact t9)
    have tb := tf_hole ow (d := 1) (z := 1) (List.replicate m (.hole w [])) (fun t ht => by rw [List.eq_of_mem_replicate ht]; exact tw)
    rw [List.length_replicate] at ta tb
    exact ⟨bad_tf (L := .sign lw lps) (R := .hole w (List.replicate m (.hole w9 []))) _ (by rw [LE, Tm.enc_hole]; simp [E9, hol]) tL11 (ta.mono (by omega) (Nat.le_refl _)) (by omega) (by omega) (sp16 nd X h9 w m hm h0),
      bad_tf (L := .sign lw lps) (R := .hole w (List.replicate m (.hole w []))) _ (by rw [LE, Tm.enc_hole]; simp [Tm.enc_hole, hol]) tL11 (tb.mono (by omega) (Nat.le_refl _)) (by omega) (by omega) (sp17 nd X w m hm h0)⟩
end HF

end
section
set_option Elab.async false
set_option linter.all false
set_option maxRecDepth 20000
set_option maxHeartbeats 1000000
set_option autoImplicit false
namespace HF
open PySem PySem.Spec PyProof.Rows L2
def wsL (c : Int) : List Str := (List.range 10).map (wordS c)
def hsL (c : Int) (sp : Nat) : KN := (List.range 4).map fun k => (wordS c (sp + k), k)
theorem holes_ok (c : Int) (h : List PO) : ∃ sp : Nat, sp ≤ 5 ∧ f_law_holes [.int c, .lst ((wsL c).map .str)] h = .ok (.fr (.lst ((hsL c sp).map holeV))) h := by
  have zs := sizeLine_val
  have m := mix_ok c 55 h (by omega) (by omega)
  have h1 := Int.emod_nonneg (mixI c 55) (b := 4) (by omega)
  have h2 := Int.emod_lt_of_pos (mixI c 55) (b := 4) (by omega)
  obtain ⟨sp, s5, ea⟩ : ∃ sp : Nat, sp ≤ 5 ∧ atI [PV.int 5, .int 5, .int 0, .int 2] (mixI c 55 % 4) = some (.int (sp : Nat)) := by
    obtain ⟨n, hn⟩ := Int.eq_ofNat_of_zero_le h1
    rw [hn, atI_nat]
    have : n = 0 ∨ n = 1 ∨ n = 2 ∨ n = 3 := by omega
    rcases this with rfl | rfl | rfl | rfl
    · exact ⟨5, by omega, rfl⟩
    · exact ⟨5, by omega, rfl⟩
    · exact ⟨0, by omega, rfl⟩
    · exact ⟨2, by omega, rfl⟩
  refine ⟨sp, s5, ?_⟩
  obtain ⟨WV, eW⟩ : ∃ W : PV, W = .lst ((wsL c).map .str) := ⟨_, rfl⟩
  have wl : (wsL c).length = 10 := by simp [wsL]
  unfold f_law_holes
  refine dx_fr rfl ?_
  unfold b_law_holes
  rw [← eW]
  obtain ⟨N, eN⟩ : ∃ N : Mem, N = ⟨[some (.v (.int c)), some (.v WV), some (.v (.int (sp : Nat))), none], h⟩ := ⟨_, rfl⟩
  refine xT (sq_nx (M' := N) (by rw [eN]; simp [m, ea])) ?_
  have g1 : (10 : Nat) ≤ sizeLine := by omega
  have g4 : (4 : Nat) ≤ sizeLine := by omega
  have lc : ∀ all, lcL (.v .non) all (.nm 3) [3] bYes (toP (eTup (aCons (toP (e2 opIx (eVar 1) (e2 opAdd (eVar 2) (eVar 3)))) (aCons (toP (eVar 3)) aNil)))) ((List.range 4).map fun i : Nat => .int (i : Int)) [] N = some ([] ++ (List.range 4).map fun k => holeV (wordS c (sp + k), k), N) := fun all =>
    lcL_map0 N (fun i : Nat => PV.int (i : Int)) (fun k => holeV (wordS c (sp + k), k)) (List.range 4) [] fun k hk => by
      have hk := List.mem_range.mp hk
      have at1 : atI ((wsL c).map PV.str) ((sp : Int) + (k : Int)) = some (.str (wordS c (sp + k))) := by
        rw [show (sp : Int) + (k : Int) = ((sp + k : Nat) : Int) by omega, atI_nat, List.getElem?_map]
        unfold wsL
        rw [List.getElem?_map, List.getElem?_range (by omega)]; rfl
      rw [eN, eW]
      simp [wl, g1, at1, holeV]
  have el := eLc_at (s := srcR1 (aCons (toP (eC (.int 4))) aNil)) (pt := .nm 3) (vs := [3]) (t := bYes) (f := toP (eTup (aCons (toP (e2 opIx (eVar 1) (e2 opAdd (eVar 2) (eVar 3)))) (aCons (toP (eVar 3)) aNil)))) (M := N) (M1 := N) (M2 := N) (sr := (.v .non, (List.range 4).map fun i : Nat => .int (i : Int))) (ps := (hsL c sp).map holeV) (by rw [eN]; simp [g4]) (Eq.trans (by rw [eN]; rfl) ((lc _).trans (by unfold hsL; rw [List.map_map]; rfl)))
  exact xE (r := N.r) (by simp only [sRet, el, Res.st]; rw [eN])
theorem law_end (ns : List Int) (hn : ns.length ≤ 63) : ∃ h', f_law [.rol (ns.map .int)] [] = .ok (.v (.bl true)) h' := by
  have zs := sizeLine_val
  obtain ⟨c, ec⟩ : ∃ c, c = ns[0]?.getD 0 := ⟨_, rfl⟩
  have cl := cell_ok ns 0 [] (by omega)
  rw [← ec] at cl
  have wo := words_ok c 10 [] (by omega)
  have wE : ((List.range 10).map fun k => PV.str (wordS c k)) = (wsL c).map .str := by unfold wsL; rw [List.map_map]; rfl
  rw [wE] at wo
  obtain ⟨sp, s5, ho⟩ := holes_ok c []
  have wl : (wsL c).length = 10 := by simp [wsL]
  have hl : (hsL c sp).length = 4 := by simp [hsL]
  have wwd : ∀ w ∈ wsL c, WdOk w := fun w hw => by
    obtain ⟨k, _, rfl⟩ := List.mem_map.mp hw
    exact wordS_wd c k
  have hmem : ∀ p ∈ hsL c sp, ∃ k < 4, p = (wordS c (sp + k), k) := fun p hp => by
    obtain ⟨k, hk, rfl⟩ := List.mem_map.mp hp
    exact ⟨k, List.mem_range.mp hk, rfl⟩
  have hwd : ∀ p ∈ hsL c sp, WdOk p.1 := fun p hp => by obtain ⟨k, _, rfl⟩ := hmem p hp; exact wordS_wd c _
  have hst : ∀ p ∈ hsL c sp, PyData.strOk p.1 = true := fun p hp => by obtain ⟨k, _, rfl⟩ := hmem p hp; exact wordS_ok c _
  have h3 : ∀ p ∈ hsL c sp, p.2 ≤ 3 := fun p hp => by obtain ⟨k, _, rfl⟩ := hmem p hp; simp only; omega
  have nd : ((hsL c sp).map (·.1)).Nodup := by
    unfold hsL
    rw [List.map_map]
    refine List.pairwise_map.mpr (List.nodup_range.imp_of_mem fun {a b} ha hb hne e => hne ?_)
    have ha := List.mem_range.mp ha
    have hb := List.mem_range.mp hb
    have := wordS_inj c (by omega) (by omega) e
    omega
  have h9 : wordS c 9 ∉ (hsL c sp).map (·.1) := fun z => by
    obtain ⟨p, hp, e⟩ := List.mem_map.mp z
    obtain ⟨k, hk, rfl⟩ := hmem p hp
    have := wordS_inj c (i := sp + k) (j := 9) (by omega) (by omega) e
    omega
  have at' : ∀ k, k < 10 → (wsL c)[k]? = some (wordS c k) := fun k hk => by unfold wsL; rw [List.getElem?_map, List.getElem?_range hk]; rfl
  have cut : ∃ cs : List Int, cutP (ns.map PV.int) (some 1) (some 25) = cs.map .int ∧ cs.length ≤ 1000 := by
    unfold cutP
    exact ⟨_, by rw [← List.map_drop, ← List.map_take], by simp; omega⟩
  obtain ⟨cs, ecs, csl⟩ := cut
  obtain ⟨L, R, h1, ru, X⟩ := rule_ok (wsL c) (hsL c sp) cs [] (by omega) (by omega) (by omega) h3 hst nd csl
  obtain ⟨lw, lps, rfl⟩ : ∃ lw lps, L = .sign lw lps := by
    have := X.Lsg
    cases L with
    | sign w ps => exact ⟨w, ps, rfl⟩
    | name k => cases this
    | hole w ts => cases this
  have gr := alike_grow nd _ X.Lok [] (by simp) (by simp)
  have tru : ∀ g, ∃ g', f_is_rule [.tup [(Tm.sign lw lps).enc, R.enc]] g = .ok (.v (.bl true)) g' := fun g => by
    obtain ⟨g', h⟩ := is_rule_ok (.sign lw lps) R g (ok_wd wwd hwd X.Lok) (ok_wd wwd (fun p hp => hwd p (gr.2.1.sub p hp)) X.Rok) (by have := X.Ldep; omega) (by have := X.Rdep; omega) (by have := X.Lsz; omega) (by have := X.Rsz; omega)
    rw [rule_true nd X] at h
    exact ⟨g', h⟩
  have spo : ∀ (num : Int) (g : List PO), 0 ≤ num → ∃ y g', f_law_spoiled [.tup [(Tm.sign lw lps).enc, R.enc], .int num, .lst ((wsL c).map .str)] g = .ok (.v y) g' ∧ Bad y := fun num g h0 => by
    obtain ⟨Y, y, W, bad, odd, g', e, ym, hb, ho', hW, hY⟩ := spoiled_walk (wsL c) (hsL c sp) lw lps R num g nd (by omega) h3 hst X h0 wl _ _ _ (at' 0 (by omega)) (at' 3 (by omega)) (at' 9 (by omega))
    obtain ⟨c1, c2⟩ := cand_bad nd h3 X wwd hwd (wordS_wd c 0) (wordS_wd c 3) (wordS_wd c 9) h9 W bad odd hb ho' hW
    refine ⟨y, g', e, ?_⟩
    rcases hY with rfl | ⟨w, m, hm, hm0, rfl⟩
    · exact c1 y ym
    · rcases List.mem_append.mp ym with ym | ym
      · exact c1 y ym
      · obtain ⟨d1, d2⟩ := c2 w m hm hm0
        simp at ym
        rcases ym with rfl | rfl
        · exact d1
        · exact d2
  obtain ⟨RV, eRV⟩ : ∃ RV : PV, RV = .tup [(Tm.sign lw lps).enc, R.enc] := ⟨_, rfl⟩
  rw [← eRV] at ru tru spo
  obtain ⟨WV, eW⟩ : ∃ W : PV, W = .lst ((wsL c).map .str) := ⟨_, rfl⟩
  obtain ⟨HV, eH⟩ : ∃ W : PV, W = .lst ((hsL c sp).map holeV) := ⟨_, rfl⟩
  rw [← eW] at spo
  obtain ⟨h2, t1⟩ := tru h1
  have mx := mix_ok c 50 h2 (by omega) (by omega)
  have cl2 := cell_ok ns 0 h2 (by omega)
  rw [← ec] at cl2
  obtain ⟨N, eN⟩ : ∃ N : Option LV → Option LV → Option LV → Option LV → List PO → Mem, N = fun x1 x2 x3 x4 g => ⟨[some (.v (.rol (ns.map .int))), x1, x2, x3, x4, none], g⟩ := ⟨_, rfl⟩
  obtain ⟨v1, ev1⟩ : ∃ v, v = some (LV.v WV) := ⟨_, rfl⟩
  obtain ⟨v2, ev2⟩ : ∃ v, v = some (LV.v HV) := ⟨_, rfl⟩
  obtain ⟨v3, ev3⟩ : ∃ v, v = some (LV.v RV) := ⟨_, rfl⟩
  obtain ⟨v4, ev4⟩ : ∃ v, v = some (LV.v (.int (mixI c 50))) := ⟨_, rfl⟩
  have mlo := mixI_lo c 50
  have loop : ∀ (all : List PV) (xs : List Nat) (g : List PO), ∃ g', forL (.v .non) all (.nm 5) b_law_1 [5] (xs.map fun i : Nat => .int (i : Int)) (N v1 v2 v3 v4 g) = .nx (N v1 v2 v3 v4 g') := by
    intro all xs
    induction xs with
    | nil => intro g; exact ⟨g, for_nil⟩
    | cons x xs ih =>
      intro g
      obtain ⟨y, g1, sy, by'⟩ := spo (mixI c 50 + 5 * (x : Int)) g (by omega)
      obtain ⟨g2, ry⟩ := by' g1
      obtain ⟨g3, i3⟩ := ih g2
      refine ⟨g3, ?_⟩
      rw [List.map_cons]
      refine (for_go ?_).trans i3
      refine turn_go (r' := [some (.v (.rol (ns.map .int))), v1, v2, v3, v4, some (.v (.int (x : Nat)))]) (M2 := ⟨[some (.v (.rol (ns.map .int))), v1, v2, v3, v4, some (.v (.int (x : Nat)))], g2⟩) (by rw [eN]; rfl) ?_ (by rw [eN]; rfl)
      unfold b_law_1
      refine (if_f (M1 := ⟨[some (.v (.rol (ns.map .int))), v1, v2, v3, v4, some (.v (.int (x : Nat)))], g2⟩) ?_).trans rfl
      rw [eN, ev1, ev3, ev4]
      simp [sy, ry]
  obtain ⟨h3', l3⟩ := loop ((List.range 4).map fun i : Nat => .int (i : Int)) (List.range 4) h2
  obtain ⟨h4, t4⟩ := tru h3'
  refine ⟨h4, ?_⟩
  have g4 : (4 : Nat) ≤ sizeLine := by omega
  unfold f_law
  refine dx_v rfl ?_
  unfold b_law
  rw [← eW] at ho ru
  rw [← eH] at ru
  simp at cl cl2 wo ecs
  refine xT (sq_nx (M' := N v1 none none none []) (by rw [eN, ev1, eW]; simp [cl, wo])) ?_
  refine xT (sq_nx (M' := N v1 v2 none none []) (by rw [eN, ev1, ev2, eH]; simp [cl, ho])) ?_
  refine xT (sq_nx (M' := N v1 v2 v3 none h1) (by rw [eN, ev1, ev2, ev3]; simp [ecs, ru])) ?_
  refine xT (sq_nx (M' := N v1 v2 v3 none h2) ((if_f (M1 := N v1 v2 v3 none h2) (by rw [eN, ev3]; simp [t1])).trans rfl)) ?_
  refine xT (sq_nx (M' := N v1 v2 v3 v4 h2) (by rw [eN, ev4]; simp [cl2, mx])) ?_
  refine xT (sq_nx (M' := N v1 v2 v3 v4 h3') (for_nx (M1 := N v1 v2 v3 v4 h2) (sr := (.v .non, (List.range 4).map fun i : Nat => .int (i : Int))) (by rw [eN]; simp [g4]) (Eq.trans (by rw [eN]; rfl) l3))) ?_
  exact xE (r := (N v1 v2 v3 v4 h4).r) (ret_at (M1 := N v1 v2 v3 v4 h4) (p := .bl true) (by rw [eN, ev3]; simp [t4]) |>.trans (by rw [eN]))
end HF

end
section
set_option Elab.async false
set_option linter.all false
set_option maxRecDepth 100000
set_option maxHeartbeats 4000000
set_option autoImplicit false
namespace HF
open PySem PySem.Spec PyProof.Rows L2
theorem tops_at {l : PySem.W.OpenLaw} {w : World} {K : PySem.W.Frag} {h : Heap} {mg : Str → Option Value} {fa : Addr} (KX : K.In h) (NG : h.Ns mainGlobals mg) (mlaw : mg "law" = some (.ref fa))
    {f1 f2 f3 f4 f5 f6 f7 f8 f9 f10 f11 f12 f13 f14 f15 f16 f17 f18 f19 f20 f21 f22 : Addr}
    {oc1 kv1 dc1 pm1 ct1 cd1 oc2 kv2 dc2 pm2 ct2 cd2 oc3 kv3 dc3 pm3 ct3 cd3 oc4 kv4 dc4 pm4 ct4 cd4 oc5 kv5 dc5 pm5 ct5 cd5 oc6 kv6 dc6 pm6 ct6 cd6 oc7 kv7 dc7 pm7 ct7 cd7 oc8 kv8 dc8 pm8 ct8 cd8 oc9 kv9 dc9 pm9 ct9 cd9 oc10 kv10 dc10 pm10 ct10 cd10 oc11 kv11 dc11 pm11 ct11 cd11 oc12 kv12 dc12 pm12 ct12 cd12 oc13 kv13 dc13 pm13 ct13 cd13 oc14 kv14 dc14 pm14 ct14 cd14 oc15 kv15 dc15 pm15 ct15 cd15 oc16 kv16 dc16 pm16 ct16 cd16 oc17 kv17 dc17 pm17 ct17 cd17 oc18 kv18 dc18 pm18 ct18 cd18 oc19 kv19 dc19 pm19 ct19 cd19 oc20 kv20 dc20 pm20 ct20 cd20 oc21 kv21 dc21 pm21 ct21 cd21 oc22 kv22 dc22 pm22 ct22 cd22 : Value} {od1 an1 od2 an2 od3 an3 od4 an4 od5 an5 od6 an6 od7 an7 od8 an8 od9 an9 od10 an10 od11 an11 od12 an12 od13 an13 od14 an14 od15 an15 od16 an16 od17 an17 od18 an18 od19 an19 od20 an20 od21 an21 od22 an22 : Option Addr} {sl1 sl2 sl3 sl4 sl5 sl6 sl7 sl8 sl9 sl10 sl11 sl12 sl13 sl14 sl15 sl16 sl17 sl18 sl19 sl20 sl21 sl22 : Array (Option Value)}
    (a1 : PySem.W.nsIn K mainGlobals "is_count" = some (some (.ref f1)))
    (l1 : K.lookup f1 = some ⟨oc1, od1, .func (PySem.W.fnOf "is_count" "is_count" (defArgs s_is_count) (defBody s_is_count) (defScope s_is_count) .none kv1 dc1 pm1 an1 cd1 ct1), sl1⟩)
    (c1 : PySem.W.codeIn K cd1 "is_count" = true) (k1 : PySem.W.keepIn K (.ref f1) = true)
    (a2 : PySem.W.nsIn K mainGlobals "is_word" = some (some (.ref f2)))
    (l2 : K.lookup f2 = some ⟨oc2, od2, .func (PySem.W.fnOf "is_word" "is_word" (defArgs s_is_word) (defBody s_is_word) (defScope s_is_word) .none kv2 dc2 pm2 an2 cd2 ct2), sl2⟩)
    (c2 : PySem.W.codeIn K cd2 "is_word" = true) (k2 : PySem.W.keepIn K (.ref f2) = true)
    (a3 : PySem.W.nsIn K mainGlobals "is_part" = some (some (.ref f3)))
    (l3 : K.lookup f3 = some ⟨oc3, od3, .func (PySem.W.fnOf "is_part" "is_part" (defArgs s_is_part) (defBody s_is_part) (defScope s_is_part) .none kv3 dc3 pm3 an3 cd3 ct3), sl3⟩)
    (c3 : PySem.W.codeIn K cd3 "is_part" = true) (k3 : PySem.W.keepIn K (.ref f3) = true)
    {td4 : Addr} {toc4 : Value} {tod4 : Option Addr} {tsl4 : Array (Option Value)} {tn4 : Nat} {tk4 : Tok}
    (lt4 : K.lookup td4 = some ⟨toc4, tod4, .seq #[.int 0 tk4] tn4, tsl4⟩)
    (a4 : PySem.W.nsIn K mainGlobals "is_term" = some (some (.ref f4)))
    (l4 : K.lookup f4 = some ⟨oc4, od4, .func (PySem.W.fnOf "is_term" "is_term" (defArgs s_is_term) (defBody s_is_term) (defScope s_is_term) (.ref td4) kv4 dc4 pm4 an4 cd4 ct4), sl4⟩)
    (c4 : PySem.W.codeIn K cd4 "is_term" = true) (k4 : PySem.W.keepIn K (.ref f4) = true)
    (a5 : PySem.W.nsIn K mainGlobals "inner_terms" = some (some (.ref f5)))
    (l5 : K.lookup f5 = some ⟨oc5, od5, .func (PySem.W.fnOf "inner_terms" "inner_terms" (defArgs s_inner_terms) (defBody s_inner_terms) (defScope s_inner_terms) .none kv5 dc5 pm5 an5 cd5 ct5), sl5⟩)
    (c5 : PySem.W.codeIn K cd5 "inner_terms" = true) (k5 : PySem.W.keepIn K (.ref f5) = true)
    (a6 : PySem.W.nsIn K mainGlobals "told_names" = some (some (.ref f6)))
    (l6 : K.lookup f6 = some ⟨oc6, od6, .func (PySem.W.fnOf "told_names" "told_names" (defArgs s_told_names) (defBody s_told_names) (defScope s_told_names) .none kv6 dc6 pm6 an6 cd6 ct6), sl6⟩)
    (c6 : PySem.W.codeIn K cd6 "told_names" = true) (k6 : PySem.W.keepIn K (.ref f6) = true)
    (a7 : PySem.W.nsIn K mainGlobals "is_straight" = some (some (.ref f7)))
    (l7 : K.lookup f7 = some ⟨oc7, od7, .func (PySem.W.fnOf "is_straight" "is_straight" (defArgs s_is_straight) (defBody s_is_straight) (defScope s_is_straight) .none kv7 dc7 pm7 an7 cd7 ct7), sl7⟩)
    (c7 : PySem.W.codeIn K cd7 "is_straight" = true) (k7 : PySem.W.keepIn K (.ref f7) = true)
    (a8 : PySem.W.nsIn K mainGlobals "holes_alike" = some (some (.ref f8)))
    (l8 : K.lookup f8 = some ⟨oc8, od8, .func (PySem.W.fnOf "holes_alike" "holes_alike" (defArgs s_holes_alike) (defBody s_holes_alike) (defScope s_holes_alike) .none kv8 dc8 pm8 an8 cd8 ct8), sl8⟩)
    (c8 : PySem.W.codeIn K cd8 "holes_alike" = true) (k8 : PySem.W.keepIn K (.ref f8) = true)
    (a9 : PySem.W.nsIn K mainGlobals "is_rule" = some (some (.ref f9)))
    (l9 : K.lookup f9 = some ⟨oc9, od9, .func (PySem.W.fnOf "is_rule" "is_rule" (defArgs s_is_rule) (defBody s_is_rule) (defScope s_is_rule) .none kv9 dc9 pm9 an9 cd9 ct9), sl9⟩)
    (c9 : PySem.W.codeIn K cd9 "is_rule" = true) (k9 : PySem.W.keepIn K (.ref f9) = true)
    (a10 : PySem.W.nsIn K mainGlobals "_law_mix" = some (some (.ref f10)))
    (l10 : K.lookup f10 = some ⟨oc10, od10, .func (PySem.W.fnOf "_law_mix" "_law_mix" (defArgs s_law_mix) (defBody s_law_mix) (defScope s_law_mix) .none kv10 dc10 pm10 an10 cd10 ct10), sl10⟩)
    (c10 : PySem.W.codeIn K cd10 "_law_mix" = true) (k10 : PySem.W.keepIn K (.ref f10) = true)
    (a11 : PySem.W.nsIn K mainGlobals "_law_free" = some (some (.ref f11)))
    (l11 : K.lookup f11 = some ⟨oc11, od11, .func (PySem.W.fnOf "_law_free" "_law_free" (defArgs s_law_free) (defBody s_law_free) (defScope s_law_free) .none kv11 dc11 pm11 an11 cd11 ct11), sl11⟩)
    (c11 : PySem.W.codeIn K cd11 "_law_free" = true) (k11 : PySem.W.keepIn K (.ref f11) = true)
    (a12 : PySem.W.nsIn K mainGlobals "_law_words" = some (some (.ref f12)))
    (l12 : K.lookup f12 = some ⟨oc12, od12, .func (PySem.W.fnOf "_law_words" "_law_words" (defArgs s_law_words) (defBody s_law_words) (defScope s_law_words) .none kv12 dc12 pm12 an12 cd12 ct12), sl12⟩)
    (c12 : PySem.W.codeIn K cd12 "_law_words" = true) (k12 : PySem.W.keepIn K (.ref f12) = true)
    (a13 : PySem.W.nsIn K mainGlobals "_law_cell_at" = some (some (.ref f13)))
    (l13 : K.lookup f13 = some ⟨oc13, od13, .func (PySem.W.fnOf "_law_cell_at" "_law_cell_at" (defArgs s_law_cell_at) (defBody s_law_cell_at) (defScope s_law_cell_at) .none kv13 dc13 pm13 an13 cd13 ct13), sl13⟩)
    (c13 : PySem.W.codeIn K cd13 "_law_cell_at" = true) (k13 : PySem.W.keepIn K (.ref f13) = true)
    (a14 : PySem.W.nsIn K mainGlobals "_law_leaf" = some (some (.ref f14)))
    (l14 : K.lookup f14 = some ⟨oc14, od14, .func (PySem.W.fnOf "_law_leaf" "_law_leaf" (defArgs s_law_leaf) (defBody s_law_leaf) (defScope s_law_leaf) .none kv14 dc14 pm14 an14 cd14 ct14), sl14⟩)
    (c14 : PySem.W.codeIn K cd14 "_law_leaf" = true) (k14 : PySem.W.keepIn K (.ref f14) = true)
    (a15 : PySem.W.nsIn K mainGlobals "_law_term" = some (some (.ref f15)))
    (l15 : K.lookup f15 = some ⟨oc15, od15, .func (PySem.W.fnOf "_law_term" "_law_term" (defArgs s_law_term) (defBody s_law_term) (defScope s_law_term) .none kv15 dc15 pm15 an15 cd15 ct15), sl15⟩)
    (c15 : PySem.W.codeIn K cd15 "_law_term" = true) (k15 : PySem.W.keepIn K (.ref f15) = true)
    (a16 : PySem.W.nsIn K mainGlobals "_law_straight" = some (some (.ref f16)))
    (l16 : K.lookup f16 = some ⟨oc16, od16, .func (PySem.W.fnOf "_law_straight" "_law_straight" (defArgs s_law_straight) (defBody s_law_straight) (defScope s_law_straight) .none kv16 dc16 pm16 an16 cd16 ct16), sl16⟩)
    (c16 : PySem.W.codeIn K cd16 "_law_straight" = true) (k16 : PySem.W.keepIn K (.ref f16) = true)
    (a17 : PySem.W.nsIn K mainGlobals "_law_holes" = some (some (.ref f17)))
    (l17 : K.lookup f17 = some ⟨oc17, od17, .func (PySem.W.fnOf "_law_holes" "_law_holes" (defArgs s_law_holes) (defBody s_law_holes) (defScope s_law_holes) .none kv17 dc17 pm17 an17 cd17 ct17), sl17⟩)
    (c17 : PySem.W.codeIn K cd17 "_law_holes" = true) (k17 : PySem.W.keepIn K (.ref f17) = true)
    (a18 : PySem.W.nsIn K mainGlobals "_law_held" = some (some (.ref f18)))
    (l18 : K.lookup f18 = some ⟨oc18, od18, .func (PySem.W.fnOf "_law_held" "_law_held" (defArgs s_law_held) (defBody s_law_held) (defScope s_law_held) .none kv18 dc18 pm18 an18 cd18 ct18), sl18⟩)
    (c18 : PySem.W.codeIn K cd18 "_law_held" = true) (k18 : PySem.W.keepIn K (.ref f18) = true)
    (a19 : PySem.W.nsIn K mainGlobals "_law_rule" = some (some (.ref f19)))
    (l19 : K.lookup f19 = some ⟨oc19, od19, .func (PySem.W.fnOf "_law_rule" "_law_rule" (defArgs s_law_rule) (defBody s_law_rule) (defScope s_law_rule) .none kv19 dc19 pm19 an19 cd19 ct19), sl19⟩)
    (c19 : PySem.W.codeIn K cd19 "_law_rule" = true) (k19 : PySem.W.keepIn K (.ref f19) = true)
    (a20 : PySem.W.nsIn K mainGlobals "_law_beside" = some (some (.ref f20)))
    (l20 : K.lookup f20 = some ⟨oc20, od20, .func (PySem.W.fnOf "_law_beside" "_law_beside" (defArgs s_law_beside) (defBody s_law_beside) (defScope s_law_beside) .none kv20 dc20 pm20 an20 cd20 ct20), sl20⟩)
    (c20 : PySem.W.codeIn K cd20 "_law_beside" = true) (k20 : PySem.W.keepIn K (.ref f20) = true)
    (a21 : PySem.W.nsIn K mainGlobals "_law_spoiled" = some (some (.ref f21)))
    (l21 : K.lookup f21 = some ⟨oc21, od21, .func (PySem.W.fnOf "_law_spoiled" "_law_spoiled" (defArgs s_law_spoiled) (defBody s_law_spoiled) (defScope s_law_spoiled) .none kv21 dc21 pm21 an21 cd21 ct21), sl21⟩)
    (c21 : PySem.W.codeIn K cd21 "_law_spoiled" = true) (k21 : PySem.W.keepIn K (.ref f21) = true)
    (a22 : PySem.W.nsIn K mainGlobals "law" = some (some (.ref f22)))
    (l22 : K.lookup f22 = some ⟨oc22, od22, .func (PySem.W.fnOf "law" "law" (defArgs s_law) (defBody s_law) (defScope s_law) .none kv22 dc22 pm22 an22 cd22 ct22), sl22⟩)
    (c22 : PySem.W.codeIn K cd22 "law" = true) (k22 : PySem.W.keepIn K (.ref f22) = true)
    (z_all : PySem.W.nsIn K mainGlobals "all" = some none)
    (z_bool : PySem.W.nsIn K mainGlobals "bool" = some none)
    (z_divmod : PySem.W.nsIn K mainGlobals "divmod" = some none)
    (z_int : PySem.W.nsIn K mainGlobals "int" = some none)
    (z_isinstance : PySem.W.nsIn K mainGlobals "isinstance" = some none)
    (z_len : PySem.W.nsIn K mainGlobals "len" = some none)
    (z_list : PySem.W.nsIn K mainGlobals "list" = some none)
    (z_range : PySem.W.nsIn K mainGlobals "range" = some none)
    (z_sorted : PySem.W.nsIn K mainGlobals "sorted" = some none)
    (z_str : PySem.W.nsIn K mainGlobals "str" = some none)
    (z_sum : PySem.W.nsIn K mainGlobals "sum" = some none)
    (z_tuple : PySem.W.nsIn K mainGlobals "tuple" = some none)
    {tk_LETTERS : Tok} (q_LETTERS : PySem.W.nsIn K mainGlobals "LETTERS" = some (some (.str "abcdefghijklmnopqrstuvwxyz" tk_LETTERS)))
    {tk_MOST_LETTERS : Tok} (q_MOST_LETTERS : PySem.W.nsIn K mainGlobals "MOST_LETTERS" = some (some (.int 8 tk_MOST_LETTERS)))
    : ∃ fd : FuncData, (∀ (s : Shared) (v : Value), BindsTo s fd ⟨[v], []⟩ [("_law_script", v)]) ∧ ∀ base : Heap, K.In base → base.Ns mainGlobals mg → FnOk l.prog w K mg base (L2.CX l.prog w) 25 fa fd ["_law_script"] (spTop K [] f_law) := by
  have same := mlaw.symm.trans (PySem.W.mg_of KX NG a22)
  cases same
  have FL := fun_mk (st := s_law) l22 c22 k22
  refine ⟨PySem.W.fnOf "law" "law" (defArgs s_law) (defBody s_law) (defScope s_law) .none kv22 dc22 pm22 an22 cd22 ct22, fun s v => .of_eq rfl, fun base _ _ => ?_⟩
  have T : Tops ⟨l.prog, w, K, mg, base, []⟩ :=
    { t_is_count := defAt_mk KX NG a1 l1 c1 k1 fun _ _ _ _ _ _ us hl => match us, hl with | [_], _ => rfl
      t_is_word := defAt_mk KX NG a2 l2 c2 k2 fun _ _ _ _ _ _ us hl => match us, hl with | [_], _ => rfl
      t_is_part := defAt_mk KX NG a3 l3 c3 k3 fun _ _ _ _ _ _ us hl => match us, hl with | [_, _], _ => rfl
      t_is_term := defAtD_mk KX NG a4 l4 lt4 c4 k4 1 rfl (fun _ _ _ _ _ _ _ us its hu hi => match us, its, hu, hi with | [_, _], [_], _, _ => ⟨_, rfl, rfl⟩) (fun _ _ _ _ _ _ _ us its hu hi => match us, its, hu, hi with | [_], [_], _, _ => ⟨_, rfl, rfl⟩)
      t_inner_terms := defAt_mk KX NG a5 l5 c5 k5 fun _ _ _ _ _ _ us hl => match us, hl with | [_], _ => rfl
      t_told_names := defAt_mk KX NG a6 l6 c6 k6 fun _ _ _ _ _ _ us hl => match us, hl with | [_], _ => rfl
      t_is_straight := defAt_mk KX NG a7 l7 c7 k7 fun _ _ _ _ _ _ us hl => match us, hl with | [_], _ => rfl
      t_holes_alike := defAt_mk KX NG a8 l8 c8 k8 fun _ _ _ _ _ _ us hl => match us, hl with | [_, _], _ => rfl
      t_is_rule := defAt_mk KX NG a9 l9 c9 k9 fun _ _ _ _ _ _ us hl => match us, hl with | [_], _ => rfl
      t_law_mix := defAt_mk KX NG a10 l10 c10 k10 fun _ _ _ _ _ _ us hl => match us, hl with | [_, _], _ => rfl
      t_law_free := defAt_mk KX NG a11 l11 c11 k11 fun _ _ _ _ _ _ us hl => match us, hl with | [_, _], _ => rfl
      t_law_words := defAt_mk KX NG a12 l12 c12 k12 fun _ _ _ _ _ _ us hl => match us, hl with | [_, _], _ => rfl
      t_law_cell_at := defAt_mk KX NG a13 l13 c13 k13 fun _ _ _ _ _ _ us hl => match us, hl with | [_, _], _ => rfl
      t_law_leaf := defAt_mk KX NG a14 l14 c14 k14 fun _ _ _ _ _ _ us hl => match us, hl with | [_, _, _], _ => rfl
      t_law_term := defAt_mk KX NG a15 l15 c15 k15 fun _ _ _ _ _ _ us hl => match us, hl with | [_, _, _, _, _], _ => rfl
      t_law_straight := defAt_mk KX NG a16 l16 c16 k16 fun _ _ _ _ _ _ us hl => match us, hl with | [_, _, _, _, _], _ => rfl
      t_law_holes := defAt_mk KX NG a17 l17 c17 k17 fun _ _ _ _ _ _ us hl => match us, hl with | [_, _], _ => rfl
      t_law_held := defAt_mk KX NG a18 l18 c18 k18 fun _ _ _ _ _ _ us hl => match us, hl with | [_, _], _ => rfl
      t_law_rule := defAt_mk KX NG a19 l19 c19 k19 fun _ _ _ _ _ _ us hl => match us, hl with | [_, _, _], _ => rfl
      t_law_beside := defAt_mk KX NG a20 l20 c20 k20 fun _ _ _ _ _ _ us hl => match us, hl with | [_, _], _ => rfl
      t_law_spoiled := defAt_mk KX NG a21 l21 c21 k21 fun _ _ _ _ _ _ us hl => match us, hl with | [_, _, _], _ => rfl
      t_law := defAt_mk KX NG a22 l22 c22 k22 fun _ _ _ _ _ _ us hl => match us, hl with | [_], _ => rfl
      m_all := PySem.W.mg_none_of KX NG z_all
      m_bool := PySem.W.mg_none_of KX NG z_bool
      m_divmod := PySem.W.mg_none_of KX NG z_divmod
      m_int := PySem.W.mg_none_of KX NG z_int
      m_isinstance := PySem.W.mg_none_of KX NG z_isinstance
      m_len := PySem.W.mg_none_of KX NG z_len
      m_list := PySem.W.mg_none_of KX NG z_list
      m_range := PySem.W.mg_none_of KX NG z_range
      m_sorted := PySem.W.mg_none_of KX NG z_sorted
      m_str := PySem.W.mg_none_of KX NG z_str
      m_sum := PySem.W.mg_none_of KX NG z_sum
      m_tuple := PySem.W.mg_none_of KX NG z_tuple
      g_LETTERS := strAt_mk KX NG q_LETTERS
      g_MOST_LETTERS := intAt_mk KX NG q_MOST_LETTERS }
  exact (d_law T _ _ FL).imp fun vs H Q Ex h => h mg
theorem walk_end {l : PySem.W.OpenLaw} {q : Program} {loose : List Str} {XP : (Str → Option Value) → Heap → Prop} {YP : World → Heap → Prop} {d : DefRec} {K : Params → PySem.W.Frag} (hn : l.most = some 63) (hdf : d.params.defaults = [])
    (hY : ∀ (w : World) (h : Heap), YP w h → (K w.params).In h)
    (F : ∀ (w : World) (mg : Str → Option Value) (fa : Addr) (h : Heap), (K w.params).In h → h.Ns mainGlobals mg → mg d.name = some (.ref fa) →
      ∃ fd : FuncData, (∀ (s : Shared) (u : Value), BindsTo s fd ⟨[u], []⟩ [("_law_script", u)]) ∧ ∀ base : Heap, (K w.params).In base → base.Ns mainGlobals mg → FnOk l.prog w (K w.params) mg base (L2.CX l.prog w) 25 fa fd ["_law_script"] (spTop (K w.params) [] f_law)) :
    PySem.W.WalkO q loose XP YP l.row.toRowW d [] (fun f vs => PySem.call f vs) :=
  L2.walk_of (n := 63) (k := 25) (x := "_law_script") (CX := fun w => L2.CX l.prog w) (sp := fun w => spTop (K w.params) [] f_law) hn (by decide) hdf ⟨rfl, by decide, by decide⟩ hY F (fun w H a ns hl _ hS mg => law_sp (fun ms hm => law_end ms hm) H a ns hl hS (fun p hp => by simp at hp)) fun w H s e s' z => CX_false z
end HF
open PySem PySem.W PyProof.Rows
set_option maxHeartbeats 0 in
theorem PySem.Challenge.cw_holeform_k60_is_rule_holds : PySem.Challenge.rw_holeform_k60_is_rule.Holds := by
  w_on; o_law; k_head; (case hw => w_witness2); k_fill
  refine HF.walk_end (l := PySem.Challenge.rw_holeform_k60_is_rule) rfl rfl (fun w h Y => PySem.W.kIn_of Y) ?F
  case F =>
    intro w mg fa h KX NG ml
    refine' HF.tops_at KX NG ml ?a1 ?l1 ?c1 ?k1 ?a2 ?l2 ?c2 ?k2 ?a3 ?l3 ?c3 ?k3 ?lt4 ?a4 ?l4 ?c4 ?k4 ?a5 ?l5 ?c5 ?k5 ?a6 ?l6 ?c6 ?k6 ?a7 ?l7 ?c7 ?k7 ?a8 ?l8 ?c8 ?k8 ?a9 ?l9 ?c9 ?k9 ?a10 ?l10 ?c10 ?k10 ?a11 ?l11 ?c11 ?k11 ?a12 ?l12 ?c12 ?k12 ?a13 ?l13 ?c13 ?k13 ?a14 ?l14 ?c14 ?k14 ?a15 ?l15 ?c15 ?k15 ?a16 ?l16 ?c16 ?k16 ?a17 ?l17 ?c17 ?k17 ?a18 ?l18 ?c18 ?k18 ?a19 ?l19 ?c19 ?k19 ?a20 ?l20 ?c20 ?k20 ?a21 ?l21 ?c21 ?k21 ?a22 ?l22 ?c22 ?k22 ?z_all ?z_bool ?z_divmod ?z_int ?z_isinstance ?z_len ?z_list ?z_range ?z_sorted ?z_str ?z_sum ?z_tuple ?q_LETTERS ?q_MOST_LETTERS
    (case a1 => k_is); (case l1 => k_is); (case c1 => k_is); (case k1 => k_is)
    (case a2 => k_is); (case l2 => k_is); (case c2 => k_is); (case k2 => k_is)
    (case a3 => k_is); (case l3 => k_is); (case c3 => k_is); (case k3 => k_is)
    (case a4 => k_is); (case l4 => k_is); (case c4 => k_is); (case k4 => k_is)
    (case lt4 => k_is)
    (case a5 => k_is); (case l5 => k_is); (case c5 => k_is); (case k5 => k_is)
    (case a6 => k_is); (case l6 => k_is); (case c6 => k_is); (case k6 => k_is)
    (case a7 => k_is); (case l7 => k_is); (case c7 => k_is); (case k7 => k_is)
    (case a8 => k_is); (case l8 => k_is); (case c8 => k_is); (case k8 => k_is)
    (case a9 => k_is); (case l9 => k_is); (case c9 => k_is); (case k9 => k_is)
    (case a10 => k_is); (case l10 => k_is); (case c10 => k_is); (case k10 => k_is)
    (case a11 => k_is); (case l11 => k_is); (case c11 => k_is); (case k11 => k_is)
    (case a12 => k_is); (case l12 => k_is); (case c12 => k_is); (case k12 => k_is)
    (case a13 => k_is); (case l13 => k_is); (case c13 => k_is); (case k13 => k_is)
    (case a14 => k_is); (case l14 => k_is); (case c14 => k_is); (case k14 => k_is)
    (case a15 => k_is); (case l15 => k_is); (case c15 => k_is); (case k15 => k_is)
    (case a16 => k_is); (case l16 => k_is); (case c16 => k_is); (case k16 => k_is)
    (case a17 => k_is); (case l17 => k_is); (case c17 => k_is); (case k17 => k_is)
    (case a18 => k_is); (case l18 => k_is); (case c18 => k_is); (case k18 => k_is)
    (case a19 => k_is); (case l19 => k_is); (case c19 => k_is); (case k19 => k_is)
    (case a20 => k_is); (case l20 => k_is); (case c20 => k_is); (case k20 => k_is)
    (case a21 => k_is); (case l21 => k_is); (case c21 => k_is); (case k21 => k_is)
    (case a22 => k_is); (case l22 => k_is); (case c22 => k_is); (case k22 => k_is)
    (case z_all => k_is)
    (case z_bool => k_is)
    (case z_divmod => k_is)
    (case z_int => k_is)
    (case z_isinstance => k_is)
    (case z_len => k_is)
    (case z_list => k_is)
    (case z_range => k_is)
    (case z_sorted => k_is)
    (case z_str => k_is)
    (case z_sum => k_is)
    (case z_tuple => k_is)
    (case q_LETTERS => k_is)
    (case q_MOST_LETTERS => k_is)

end
